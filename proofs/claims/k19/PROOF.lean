import PyProof.Rows.All
import Wide.All
import OpenK.AllK
import Wide.FinOn
import HandS.ForMost
import HandS.EndBits
import PyProof.ReprRoads
import HandS.Wide
import HandS.Text
import HandS.Codes
import HandS.Iter
import HandS.Walk
import HandS.Steps
import HandS.Comp
import KE.IntTextLaws
import KE.KUnpackStar
import HandS.TupLe
import HandS.TupAny
import HandS.Deep
import HandS.Exc
import HandS.ExcInit
import HandS.ExcIs
import HandS.ClsMeth
import KE.KExcInit
import KE.KExcIs
import HandS.MakeKwOnly
import HandS.Star
import HandS.SlotsOwn
import HandS.Property
import KE.KOpsOwn
import KE.KFmtOwn
import PyProof.InstNe
import HandS.ExcField
import HandS.WordsExc
import HandS.Dict
import KE.KeyNested
import HandS.Small
import HandS.More
import KE.SortData
import HandS.FStr
import HandS.OwnEq
import PyProof.NeKinds
import PyProof.Rows.ReprOcc
import PyProof.StrHeap
import HandS.Lambda
import HandS.Nested
import KE.KNestM
import HandS.ListItems
import OpenK.KMeth
import HandS.GenList
import HandS.IsInst
import HandS.EndTab
import PySem.Challenge.RW_corridors_k19_stores_read_and_shown
set_option Elab.async false
set_option linter.all false
set_option maxRecDepth 100000
set_option maxHeartbeats 1000000
/-! Defs that are called where no repr runs: the promise with that fact; repr of data. -/
namespace Cor
open PySem PySem.Spec PyProof.Rows L2

/-- as FnOk, for callers under which no guarded code runs -/
structure FnG (P : Program) (w : World) (K : PySem.W.Frag) (mg : Str → Option Value) (base : Heap) (CX : CXT) (k : Nat) (f : Addr) (fd : FuncData) (ps : List Str) (sp : Sp) : Prop where
  len : ∀ vs H Q E, sp vs H Q E → vs.length = ps.length
  run : ∀ (A : Around) (outer : List Env) (s : Shared) (H : Hp) (args : Args) (us : List Value) (vs : List V) (Q : VK) (E : XK), Room k A → A.guards = some [] → Env0 P w K mg base A outer s H → BindsTo s fd args (ps.zip us) → Vals vs us → sp vs H Q E →
    codeAny (model P w) A (.call (.ref f) args) (CR CX outer P w H s Q E) s
theorem FnG.of {P : Program} {w : World} {K : PySem.W.Frag} {mg : Str → Option Value} {base : Heap} {CX : CXT} {k : Nat} {f : Addr} {fd : FuncData} {ps : List Str} {sp : Sp} (F : FnOk P w K mg base CX k f fd ps sp) : FnG P w K mg base CX k f fd ps sp :=
  ⟨F.len, fun A outer s H args us vs Q E hr _ => F.run A outer s H args us vs Q E hr⟩
theorem FnG.mono {P : Program} {w : World} {K : PySem.W.Frag} {mg : Str → Option Value} {base : Heap} {CX : CXT} {j k : Nat} {f : Addr} {fd : FuncData} {ps : List Str} {sp : Sp} (F : FnG P w K mg base CX j f fd ps sp) (h : j ≤ k) : FnG P w K mg base CX k f fd ps sp :=
  ⟨F.len, fun A outer s H args us vs Q E hr => F.run A outer s H args us vs Q E (hr.mono h)⟩
section
variable {X : Cx} {CX : CXT} {k : Nat} {f : Addr} {fd : FuncData} {ps : List Str} {sp : Sp} {dvs : List V} {ds : List Value} {E : XK} {x : Str} {p pos : Pos} {e : Expr} {es : List Expr} {t : TA}
theorem run_fnG {pins : List (Addr × Obj)} {σ : L2.St} {H : Hp} {s : Shared} {Q : VK} {us : List Value} {vs : List V} (F : FnG X.prog X.w X.K X.mg X.base CX k f fd ps sp) (hr : Room k X.A) (gd : X.A.guards = some []) (hb : Binds X.K fd ps ds) (hd : Vals dvs ds) (hx : Passes CX X E)
    (I : Inv X pins σ H s) (r : Vals vs us) (h : sp (vs ++ dvs) H Q E) : wpAny (model X.prog X.w) X.A (call (.ref f) us) (EP X pins σ Q) X.xe s := by
  have rr : Vals (vs ++ dvs) (us ++ ds) := r.append hd
  have hl : (us ++ ds).length = ps.length := rr.length.symm.trans (F.len _ _ _ _ h)
  refine wpAny_call (codeAny_mono (F.run X.A X.stack s H ⟨us, []⟩ (us ++ ds) (vs ++ dvs) Q E hr gd I.env0 (hb s us I.kIn hl) rr h) fun z s' hz => ?_)
  match z, hz with
  | .error e, hz => exact hx pins σ H s e s' I hz
  | .ok (.ret u), hz => exact I.after hz
  | .ok .next, hz => exact hz.elim
  | .ok .brk, hz => exact hz.elim
  | .ok .cont, hz => exact hz.elim
theorem pe_callG (F : FnG X.prog X.w X.K X.mg X.base CX k f fd ps sp) (hr : Room k X.A) (gd : X.A.guards = some []) (hg : Gl X x) (hm : X.mg x = some (.ref f)) (hk : PySem.W.keepIn X.K (.ref f) = true) (hb : Binds X.K fd ps ds) (hd : Vals dvs ds) (hx : Passes CX X E)
    (ha : PA X (e :: es) t) (hdb : (x == ("__debug__" : Str)) = false := by decide) (he : starEach (e :: es) X.env = (false, eval e X.env) :: starEach es X.env := by rfl) (hpl : (backTo pos (starEach es X.env)).any (·.1) = false := by rfl) :
    PE X (.Call (.Name x p) (e :: es) [] pos) (tCall sp dvs E t) := by
  refine ⟨fun pins s σ H Q I h => ?_⟩
  refine wpAny_Call_Name_kw (ld_glob I hg hm ?_ hdb)
  refine PySem.W.callWith_K (h₀ := X.base) I.ok.mod.kin hk (thn (ha.run pos pins s σ H _ I h) fun us s1 ⟨vs, H1, I1, r, q⟩ => ⟨I1.kIn, ?_⟩) he hpl
  exact run_fnG F hr gd hb hd hx I1 r q
end

/-! ### the body of such a def -/
section
variable {P : Program} {w : World} {K : PySem.W.Frag} {mg : Str → Option Value} {base : Heap}
theorem fn_ofG {CX : CXT} {k : Nat} {f : Addr} {name qual : Str} {params : Arguments} {body : List Stmt} {scope : Scope} {dV kV doc pm cdv ct oc : Value} {an od : Option Addr}
    {osl : Array (Option Value)} {N ps : List Str} {sp : Sp} (lk : K.lookup f = some ⟨oc, od, .func (PySem.W.fnOf name qual params body scope dV kV doc pm an cdv ct), osl⟩) (hcd : PySem.W.codeIn K cdv qual = true) (S : FnScope N ps scope)
    (len : ∀ vs H Q E, sp vs H Q E → vs.length = ps.length)
    (hbody : ∀ (A : Around) (outer : List Env) (s : Shared) (H : Hp) (vs : List V) (Q : VK) (E : XK), Room k (A.deeper (envOfC qual scope s.heap.objs.size f cdv)) → A.guards = some [] → sp vs H Q E →
      ∃ t, PSs (cxOf CX P w K mg base N qual scope f cdv A outer s H E) body t ∧ t { nx := fun _ H' => Q .non H', rt := Q } (start N vs) H) :
    FnG P w K mg base CX (k + 1) f (PySem.W.fnOf name qual params body scope dV kV doc pm an cdv ct) ps sp := by
  refine ⟨len, fun A outer s H args us vs Q E hr gd e0 hb r hsp => ?_⟩
  have hl := len _ _ _ _ hsp
  have KX : K.In s.heap := e0.mod.kin.keeps fun b o e => (e0.bs b o e).1
  have lim : s.heap.NoLimit := e0.mod.nolimit.keeps fun b o e => (e0.bs b o e).1
  have kinds : ∀ y ∈ ps.zip us, scope.names.lookup y.1 = some .local ∨ (scope.names.lookup y.1 = some .cell ∧ ((cellsFrom (s.heap.objs.size + 1) scope.names []).lookup y.1).isSome = true) := fun ⟨n, v⟩ hy =>
    (S.par n (List.of_mem_zip hy).1).imp id fun q => ⟨q, PySem.W.cellsFrom_some _ _ _ (.inl q)⟩
  refine codeAny_call_function hr.depth (KX _ _ lk) rfl S.co S.gen rfl (PySem.W.codeRec_of KX hcd) (hb _ _ _ _ ?_)
  refine wpAny_newFunctionEnv_cells S.kind kinds fun env he s1 x => ?_
  subst he
  refine ⟨lim.keeps x.toInCall.keep, codeAny_func ?_⟩
  obtain ⟨t, ht, hq⟩ := hbody A outer s H vs Q E (hr.deeper _) gd hsp
  have I : Inv (cxOf CX P w K mg base N qual scope f cdv A outer s H E) [] (start N vs) H s1 := inv_start S hr.hd e0 hl r x
  refine wpAny_mono (ht.run [] s1 (start N vs) H _ I hq) (fun fl s' hs => ?_) fun e s' hs => hs
  match fl, hs with
  | .ret u, ⟨v, σ', H', J, rv, q⟩ => exact ⟨v, H', J.os, J.bare, J.base, J.hok, rv, q⟩
  | .next, ⟨σ', H', J, q⟩ => exact ⟨V.non, H', J.os, J.bare, J.base, J.hok, (rfl : Value.none = Value.none), q⟩
  | .brk, ⟨_, _, _, q⟩ => exact q.elim
  | .cont, ⟨_, _, _, q⟩ => exact q.elim
theorem okG {x qual : Str} {st : Stmt} {f : Addr} {fd : FuncData} {N ps : List Str} {k : Nat} {sp : Sp} (F : Fun K x qual st f fd) (S : FnScope N ps (defScope st)) (len : ∀ vs H Q E, sp vs H Q E → vs.length = ps.length)
    (hbody : ∀ (cdv : Value) (A : Around) (outer : List Env) (s : Shared) (H : Hp) (vs : List V) (Q : VK) (E : XK), Room k (A.deeper (envOfC qual (defScope st) s.heap.objs.size f cdv)) → A.guards = some [] → sp vs H Q E →
      ∃ t, PSs (cxOf CX0 P w K mg base N qual (defScope st) f cdv A outer s H E).nox (defBody st) t ∧ t { nx := fun _ H' => Q .non H', rt := Q } (start N vs) H) : FnG P w K mg base CX0 (k + 1) f fd ps sp := by
  obtain ⟨oc, od, kV, doc, pm, an, cdv, ct, osl, rfl, lk, hcd⟩ := F.ex
  refine fn_ofG lk hcd S len fun A outer s H vs Q E hr gd hsp => ?_
  obtain ⟨t, h, q⟩ := hbody cdv A outer s H vs Q E hr gd hsp
  exact ⟨t, h.nox, q⟩
end

/-! ### the law's call -/
theorem law_callG {P : Program} {w : World} {K : PySem.W.Frag} {mg mb : Str → Option Value} {CX : CXT} {k : Nat} {fa a : Addr} {fd : FuncData} {x : Str} {sp : Sp} {s1 : Shared} {vs : List Value} {ns : List Int}
    (KX : K.In s1.heap) (hns : s1.heap.Ns mainGlobals mg) (hb : s1.heap.Ns builtinsNs mb) (hbb : ∀ x : Str, x ≠ "__name__" → mb x = bootBuiltins x) (hlim : s1.heap.NoLimit) (hg : s1.gens = #[])
    (ha : s1.heap.get? a = some { cls := .type "list", data := .seq vs.toArray }) (hi : IntsAre vs ns) (hl : ns.length ≤ sizeLine) (hr : Room k callerA)
    (F : ∀ base : Heap, K.In base → base.Ns mainGlobals mg → FnG P w K mg base CX k fa fd [x] sp) (hbind : ∀ (s : Shared) (u : Value), BindsTo s fd ⟨[u], []⟩ [(x, u)])
    (hsp : ∀ H : Hp, SqL K H a (ns.map V.int) → sp [.ref a] H (fun v _ => v = .bl true) fun _ _ _ => False)
    (hCX : ∀ H e s', CX [] H s1 (fun _ _ _ => False) e s' → False) :
    codeAny (model P w) callerA (.call (.ref fa) ⟨[.ref a], []⟩) (fun r s' => r = .ok (.ret (.bool true)) ∧ OldK s1.heap s'.heap ∧ s'.os = s1.os ∧ AllBare s'.gens) s1 := by
  have rv := vals_ints hi
  have lenV := hi.length
  let T : HO := .frz { cls := .type "list", data := .seq vs.toArray } (.lst (ns.map V.int))
  -- the heap that tracks the script unless the text's own part holds it
  let H : Hp := fun b => if b = a ∧ K.lookup a = none then some T else none
  have inH : ∀ b u, H b = some u → b = a ∧ K.lookup a = none ∧ u = T := fun b u z => by
    by_cases c : b = a ∧ K.lookup a = none
    · have z2 : some T = some u := (if_pos c).symm.trans z
      exact ⟨c.1, c.2, (Option.some.inj z2).symm⟩
    · have z2 : none = some u := (if_neg c).symm.trans z
      cases z2
  have hok : HOk P w H s1.heap := fun b u z => by
    obtain ⟨rfl, _, rfl⟩ := inH b u z
    exact ⟨ha, by rw [List.length_map]; exact hl, vs, _, rv, ha⟩
  have hS : SqL K H a (ns.map V.int) := by
    cases hk : K.lookup a with
    | none => exact .inl (.inr ⟨{ cls := .type "list", data := .seq vs.toArray }, if_pos ⟨rfl, hk⟩⟩)
    | some o =>
      have e := KX a o hk
      rw [ha] at e
      cases e
      exact .inr ⟨_, vs.toArray, _, hk, rfl, rfl, rfl, by rw [List.size_toArray, lenV]; exact hl, by simpa using rv⟩
  have noneOf : ∀ {b : Addr} {o : Obj} {es : Array DictEntry} {ep : Nat}, s1.heap.get? b = some o → o.data = .dict es ep → H b = none := fun {b o es ep} e dd => by
    cases z : H b with
    | none => rfl
    | some u =>
      obtain ⟨rfl, _, _⟩ := inH b u z
      rw [ha] at e
      cases e
      have d2 : Data.seq vs.toArray _ = Data.dict es ep := dd
      cases d2
  have nsK : ∀ {b : Addr} {m : Str → Option Value}, s1.heap.Ns b m → (hidT s1.heap H).Ns b m := fun {b m} ⟨o, es, ep, e, dd, r⟩ => ⟨o, es, ep, hidT_get e (noneOf e dd), dd, r⟩
  have kb : K.In (hidT s1.heap H) := fun b o e => hidT_get (KX b o e) (by
    cases z : H b with
    | none => rfl
    | some u =>
      obtain ⟨rfl, h2, _⟩ := inH b u z
      rw [h2] at e
      cases e)
  have md : Mod K mg (hidT s1.heap H) := ⟨kb, nsK hns, ⟨mb, nsK hb, hbb⟩, let ⟨mc, h1, h2⟩ := hlim; ⟨mc, nsK h1, h2⟩⟩
  have e0 : Env0 P w K mg (hidT s1.heap H) callerA [] s1 H := ⟨rfl, md, fun b o e => of_hidT e, Nat.le_of_eq (hidT_size _ _), trivial, fun b hb => absurd (show b ∈ ([] : List Addr) from hb) (by simp), hok, .of_eq hg⟩
  refine codeAny_mono ((F _ kb (nsK hns)).run callerA [] s1 H ⟨[.ref a], []⟩ [.ref a] [.ref a] _ _ hr rfl e0 (hbind s1 (.ref a)) (.cons rfl .nil) (hsp H hS)) fun r s' h => ?_
  match r, h with
  | .error e, h => exact (hCX H e s' h).elim
  | .ok .next, h => exact h.elim
  | .ok .brk, h => exact h.elim
  | .ok .cont, h => exact h.elim
  | .ok (.ret u), ⟨v, H2, os, bare, un, hok2, r2, q⟩ =>
    obtain rfl : v = .bl true := q
    obtain rfl : u = Value.bool true := r2
    refine ⟨rfl, OldK.of_keep fun b o e => ?_, os, bare⟩
    cases z : H b with
    | none => exact un.keep b o e z (by intro y; exact absurd (show b ∈ ([] : List Addr) from y) (by simp)) (by simp)
    | some u =>
      obtain ⟨rfl, _, rfl⟩ := inH b u z
      have z2 := un.frzs b _ _ z
      obtain ⟨e2, _⟩ := hok2 b _ z2
      rw [ha] at e
      cases e
      exact e2
theorem walk_ofG {l : PySem.W.OpenLaw} {n k : Nat} {q : Program} {loose : List Str} {XP : (Str → Option Value) → Heap → Prop} {YP : World → Heap → Prop} {d : DefRec} {K : Params → PySem.W.Frag} {CX : World → CXT} {sp : World → Sp} {x : Str}
    (hn : l.most = some n) (hn2 : n ≤ sizeLine) (hdf : d.params.defaults = []) (hr : Room k callerA)
    (hY : ∀ (w : World) (h : Heap), YP w h → (K w.params).In h)
    (F : ∀ (w : World) (mg : Str → Option Value) (fa : Addr) (h : Heap), (K w.params).In h → h.Ns mainGlobals mg → mg d.name = some (.ref fa) →
      ∃ fd : FuncData, (∀ (s : Shared) (u : Value), BindsTo s fd ⟨[u], []⟩ [(x, u)]) ∧
        ∀ base : Heap, (K w.params).In base → base.Ns mainGlobals mg → FnG l.prog w (K w.params) mg base (CX w) k fa fd [x] (sp w))
    (hsp : ∀ (w : World) (H : Hp) (a : Addr) (ns : List Int), ns.length ≤ n → (∀ z ∈ ns, Builtin.Int.intBits z ≤ 1048576) → SqL (K w.params) H a (ns.map V.int) → sp w [.ref a] H (fun v _ => v = .bl true) fun _ _ _ => False)
    (hCX : ∀ (w : World) (H : Hp) (s : Shared) (e : Value) (s' : Shared), CX w [] H s (fun _ _ _ => False) e s' → False) :
    PySem.W.WalkO q loose XP YP l.row.toRowW d [] (fun f vs => PySem.call f vs) := by
  refine Att.attach_callB hn hdf fun w s0 s1 mg mb fa o pm cd doc a vs ns G Y ho hd hcd hmg hobj hints hlen hbits hg => ?_
  have KX := hY w _ Y
  obtain ⟨fd, hb, hF⟩ := F w mg fa _ KX G.T.g hmg
  exact law_callG KX G.T.g G.T.b G.T.builtins G.T.nolimit hg hobj hints (Nat.le_trans hlen hn2) hr hF hb (fun H hS => hsp w H a ns hlen hbits hS) fun H e s' => hCX w H s1 e s'
end Cor

set_option Elab.async false
set_option linter.all false
set_option maxRecDepth 100000
set_option maxHeartbeats 1000000
namespace Cor
open PySem PySem.Spec PyProof.Rows L2

/-! ### defs of the text, by name -/
/-- the def x keeps sp at level k -/
def Df (P : Program) (w : World) (K : PySem.W.Frag) (mg : Str → Option Value) (base : Heap) (x : Str) (k : Nat) (ps : List Str) (sp : Sp) : Prop :=
  ∃ f fd, FnOk P w K mg base CX0 k f fd ps sp ∧ mg x = some (.ref f) ∧ PySem.W.keepIn K (.ref f) = true ∧ Binds K fd ps []
/-- .. where no repr runs -/
def DfG (P : Program) (w : World) (K : PySem.W.Frag) (mg : Str → Option Value) (base : Heap) (x : Str) (k : Nat) (ps : List Str) (sp : Sp) : Prop :=
  ∃ f fd, FnG P w K mg base CX0 k f fd ps sp ∧ mg x = some (.ref f) ∧ PySem.W.keepIn K (.ref f) = true ∧ Binds K fd ps []
section
variable {X : Cx} {k : Nat} {ps : List Str} {sp : Sp} {E : XK} {x : Str} {p pos : Pos} {e : Expr} {es : List Expr} {t : TA}
theorem pe_df (D : Df X.prog X.w X.K X.mg X.base x k ps sp) (hr : Room k X.A) (hg : Gl X x) (ha : PA X (e :: es) t)
    (hdb : (x == ("__debug__" : Str)) = false := by decide) (he : starEach (e :: es) X.env = (false, eval e X.env) :: starEach es X.env := by rfl) (hpl : (backTo pos (starEach es X.env)).any (·.1) = false := by rfl) :
    PE X (.Call (.Name x p) (e :: es) [] pos) (tCall sp [] E t) := by
  obtain ⟨f, fd, F, m, kp, b⟩ := D
  exact pe_call F hr hg m kp b .nil pass0 ha hdb he hpl
theorem pe_dfG (D : DfG X.prog X.w X.K X.mg X.base x k ps sp) (hr : Room k X.A) (gd : X.A.guards = some []) (hg : Gl X x) (ha : PA X (e :: es) t)
    (hdb : (x == ("__debug__" : Str)) = false := by decide) (he : starEach (e :: es) X.env = (false, eval e X.env) :: starEach es X.env := by rfl) (hpl : (backTo pos (starEach es X.env)).any (·.1) = false := by rfl) :
    PE X (.Call (.Name x p) (e :: es) [] pos) (tCall sp [] E t) := by
  obtain ⟨f, fd, F, m, kp, b⟩ := D
  exact pe_callG F hr gd hg m kp b .nil pass0 ha hdb he hpl
end

/-- a statement with one fact behind it, whatever way it took -/
def tCut (t u : TS) : TS := fun D σ H => ∃ M : L2.St → Hp → Prop, t { D with nx := M } σ H ∧ ∀ σ' H', M σ' H' → u D σ' H'
theorem pss_cut {X : Cx} {st : Stmt} {rest : List Stmt} {t u : TS} (h1 : PS X st t) (h2 : PSs X rest u) : PSs X (st :: rest) (tCut t u) := by
  constructor
  intro pins s σ H D I ⟨M, hm, hu⟩
  refine wpAny_execs_cons (thn (h1.run pins s σ H { D with nx := M } I hm) fun fl s1 q => ?_)
  match fl, q with
  | .next, ⟨σ', H', J, q⟩ => exact h2.run pins s1 σ' H' D J (hu σ' H' q)
  | .ret v, q => exact q
  | .brk, q => exact q
  | .cont, q => exact q
/-! ### heaps -/
/-- all that stood but at p stands -/
def SameBut (p : Addr) (H H' : Hp) : Prop := ∀ b o, b ≠ p → H b = some o → H' b = some o
theorem Same.but {H H' : Hp} {p : Addr} (s : Same H H') : SameBut p H H' := fun b o _ e => s b o e
theorem SameBut.trans {H H1 H2 : Hp} {p : Addr} (a : SameBut p H H1) (b : SameBut p H1 H2) : SameBut p H H2 := fun c o n e => b c o n (a c o n e)
theorem SameBut.refl {H : Hp} {p : Addr} : SameBut p H H := fun _ _ _ e => e
theorem SameBut.upd {H : Hp} {p : Addr} {o : HO} : SameBut p H (upd H p o) := fun b u n e => by rw [upd_ne n]; exact e
theorem SameBut.seq {K : PySem.W.Frag} {H H' : Hp} {p a : Addr} {xs : List V} (s : SameBut p H H') (n : H a = none ∨ a ≠ p) (h : SqL K H a xs) : SqL K H' a xs := by
  rcases h with (h | ⟨o, h⟩) | h
  · exact .inl (.inl (s _ _ (by rcases n with n | n; (· rw [n] at h; cases h); (· exact n)) h))
  · exact .inl (.inr ⟨o, s _ _ (by rcases n with n | n; (· rw [n] at h; cases h); (· exact n)) h⟩)
  · exact .inr h
theorem same_upd {H : Hp} {p : Addr} {o : HO} (n : H p = none) : Same H (upd H p o) := fun b u e => by rw [upd_ne (ne_of_none e n)]; exact e
mutual
theorem Dp.same {K : PySem.W.Frag} {H H' : Hp} (s : Same H H') : ∀ {v : V} {d : PyData}, Dp K H v d → Dp K H' v d
  | _, _, .non => .non
  | _, _, .bl b => .bl b
  | _, _, .int i => .int i
  | _, _, .str x => .str x
  | _, _, .lst h a => .lst (s.seq h) (DpAll.same s a)
  | _, _, .tup h a => .tup (by
      rcases h with (h | ⟨o, h⟩) | h
      · exact .inl (.inl (s _ _ h))
      · exact .inl (.inr ⟨o, s _ _ h⟩)
      · exact .inr h) (DpAll.same s a)
theorem DpAll.same {K : PySem.W.Frag} {H H' : Hp} (s : Same H H') : ∀ {vs : List V} {ds : List PyData}, DpAll K H vs ds → DpAll K H' vs ds
  | _, _, .nil => .nil
  | _, _, .cons h a => .cons (Dp.same s h) (DpAll.same s a)
end
/-! ### the draws -/
/-- a source of draws stands at p -/
def Box (H : Hp) (p : Addr) : Prop := ∃ b s c : Int, H p = some (.lst [.int b, .int s, .int c]) ∧ 0 ≤ s ∧ s < 4294967296
def spBox (K : PySem.W.Frag) : Sp := fun vs H Q _ => ∃ (a : Addr) (ns : List Int) (k own : Int), vs = [.ref a, .int k, .int own] ∧ SqL K H a (ns.map V.int) ∧ ns.length ≤ 63 ∧ 0 ≤ k ∧ k < 1000 ∧ 0 ≤ own ∧ own < 1000 ∧
  ∀ H' p, Same H H' → H p = none → Box H' p → Q (.ref p) H'
def spTake : Sp := fun vs H Q _ => ∃ (p : Addr) (m : Int), vs = [.ref p, .int m] ∧ Box H p ∧ 0 < m ∧ m < 2 ^ 90 ∧
  ∀ (b s c r : Int), 0 ≤ s → s < 4294967296 → 0 ≤ r → r < m → Q (.int r) (upd H p (.lst [.int b, .int s, .int c]))
/-- the names of the built-ins that a text may use -/
structure Glo (mg : Str → Option Value) : Prop where
  len : mg "len" = none
  abs : mg "abs" = none
  int : mg "int" = none
  range : mg "range" = none
  max : mg "max" = none
  min : mg "min" = none
end Cor

set_option Elab.async false
set_option linter.all false
set_option maxRecDepth 100000
set_option maxHeartbeats 1000000
/-! words: names, figures, numbers, paths. -/
namespace Cor
open PySem PySem.Spec PyProof.Rows L2
def letS : Str := "abcdefghijklmnopqrstuvwxyz"
def digS : Str := "0123456789"
def isIn (z : Str) (c : Nat) : Bool := decide (c ∈ z.cps.toList)
def resW : List Str := ["let", "put", "add", "need", "tell", "if", "else", "end", "go", "split", "part", "each", "spread", "build", "lift", "set", "has", "lacks", "here", "at"]
/-- a name -/
def nameB (x : Str) : Bool := (decide (1 ≤ x.length) && decide (x.length ≤ 6)) && (!(inV (.str x) (resW.map V.str)) && x.cps.toList.all (isIn letS))
/-- a figure: the first sign by itself -/
def figB (x : Str) : Bool := (decide (1 ≤ x.length) && decide (x.length ≤ 20)) && (x.cps.toList.all (isIn digS) && (decide (x = "0") || !decide (x.cps.toList.head? = some 48)))
def figT (x : Str) : Option Int := if figB x = true then some ((NumText.digitsVal x.cps.toList : Nat) : Int) else none
def optV : Option Int → V
  | some n => .int n
  | none => .non
/-- a number: the text behind a minus -/
def tailS (x : Str) : Str := ⟨(x.cps.toList.drop 1).toArray⟩
def numT (x : Str) : Option Int := if x.cps.toList.head? = some 45 then (match figT (tailS x) with | some n => if n = 0 then none else some (-n) | none => none) else figT x
theorem len_cps (z : Str) : z.cps.toList.length = z.length := by rw [Array.length_toList]; rfl
theorem atI_zero {α : Type} {c : α} {r : List α} : atI (c :: r) 0 = some c := by
  unfold atI ixN
  simp
theorem cut_to (x : Str) (k : Nat) : cutS x none (some (k : Int)) = ⟨(x.cps.toList.take k).toArray⟩ := by
  have lc := len_cps x
  unfold cutS
  rw [HT.sIx_none, HT.sIx_nat, List.drop_zero, Nat.sub_zero, ← lc]
  congr 2
  rw [← List.take_take, List.take_length]
theorem cut_from (x : Str) (k : Nat) : cutS x (some (k : Int)) none = ⟨(x.cps.toList.drop k).toArray⟩ := by
  have lc := len_cps x
  unfold cutS
  rw [HT.sIx_none, HT.sIx_nat, ← lc]
  congr 2
  rcases Nat.le_total k x.cps.toList.length with h | h
  · rw [Nat.min_eq_left h, List.take_of_length_le (by rw [List.length_drop]; exact Nat.le_refl _)]
  · rw [Nat.min_eq_right h, Nat.sub_self, List.take_zero, List.drop_of_length_le h]
theorem first_minus (x : Str) : decide (V.str (cutS x none (some 1)) = V.str "-") = decide (x.cps.toList.head? = some 45) := by
  rw [show (some (1 : Int)) = some ((1 : Nat) : Int) from rfl, cut_to]
  have e : ("-" : Str) = ⟨[45].toArray⟩ := by decide +kernel
  rw [e]
  cases x.cps.toList with
  | nil => decide
  | cons c r =>
    show decide (V.str ⟨[c].toArray⟩ = V.str ⟨[45].toArray⟩) = decide (some c = some 45)
    by_cases h : c = 45
    · subst h
      rw [decide_eq_true rfl, decide_eq_true rfl]
    · rw [decide_eq_false (fun z => h (Option.some.inj z)), decide_eq_false]
      intro z
      have z1 := congrArg (fun y : Str => y.cps.toList) (V.str.inj z)
      exact h (List.cons.inj z1).1
theorem isIn_dig {c : Nat} (h : isIn digS c = true) : 48 ≤ c ∧ c ≤ 57 := by
  have h' := of_decide_eq_true h
  rw [show digS.cps.toList = [48, 49, 50, 51, 52, 53, 54, 55, 56, 57] from by decide +kernel] at h'
  simp only [List.mem_cons, List.not_mem_nil, or_false] at h'
  omega
theorem fig_int {x : Str} (h : figB x = true) : PySem.intText? x = some ((NumText.digitsVal x.cps.toList : Nat) : Int) ∧ x.length ≤ 640 := by
  unfold figB at h
  simp only [Bool.and_eq_true, decide_eq_true_eq] at h
  obtain ⟨⟨h1, h2⟩, h3, _⟩ := h
  refine ⟨PySem.intText_digits (fun c hc => isIn_dig (List.all_eq_true.mp h3 c hc)) (fun e => ?_) (by omega), by omega⟩
  have := len_cps x
  rw [e, List.length_nil] at this
  omega
theorem take_succ_cps {z : Str} {i c : Nat} (h : z.cps[i]? = some c) : z.cps.toList.take (i + 1) = z.cps.toList.take i ++ [c] := by
  rw [List.take_succ, Array.getElem?_toList, h]
  rfl
/-- [p(c) for c in z] -/
theorem lc_signs {z : Str} {p : Nat → Bool} {g : TG} {te : TE} {vs : List Nat} {σ : L2.St} {H1 : Hp} {D : Addr} {Qd : Hp → Prop} (nD : H1 D = none) (hz : z.length ≤ sizeLine)
    (hs : ∀ (c : Nat) (H : Hp), g (.str ⟨#[c]⟩) (wipe σ vs) H fun σ2 H2 => wipe σ2 vs = wipe σ vs ∧ te σ2 H2 fun y H4 => y = .bl (p c) ∧ H4 = H)
    (hm : ∀ {x : V} {σ : L2.St} {H : Hp} {R R' : L2.St → Hp → Prop}, (∀ σ' H', R σ' H' → R' σ' H') → g x σ H R → g x σ H R')
    (ht : ∀ {σ : L2.St} {H : Hp} {R R' : VK}, (∀ v H', R v H' → R' v H') → te σ H R → te σ H R')
    (hd : ∀ H, Same H1 H → H D = some (.lst ((z.cps.toList.map p).map V.bl)) → Qd H) :
    ∃ W : Nat → Nat → Hp → Prop, (∃ m, W 0 m (upd H1 D (.lst []))) ∧ ∀ i m H, W i m H →
      ((Its z).stop i H ∧ Qd H) ∨ ((Its z).go i H ∧ ∃ Nx : Hp → Prop, (∀ H', Nx H' → ∃ m', m' < m ∧ W (i + 1) m' H') ∧ ∀ x H', (Its z).yld i H x H' → g x (wipe σ vs) H' fun σ2 H2 => wipe σ2 vs = wipe σ vs ∧ tYes σ2 H2 fun b H3 =>
        if b = true then te σ2 H3 fun y H4 => ∃ acc, H4 D = some (.lst acc) ∧ acc.length < sizeLine ∧ Nx (upd H4 D (.lst (acc ++ [y]))) else Nx H3) := by
  refine lc_it (n := z.cps.size) walk_str (fun i H => Same H1 H ∧ H D = some (.lst (((z.cps.toList.take i).map p).map V.bl)) ) ⟨same_upd nD, upd_same⟩ (fun _ _ _ _ => True.intro) ?_ ?_
  · rintro i x H _ hi ⟨s1, e1⟩ ⟨rfl, c, hc, rfl⟩
    refine hm (fun σ' H' hw => ?_) (hs c _)
    refine ⟨hw.1, ?_⟩
    show te σ' H' _
    refine ht (fun v H4 hv => ?_) hw.2
    obtain ⟨rfl, rfl⟩ := hv
    refine ⟨_, e1, ?_, fun b o z' => ?_, ?_⟩
    · rw [List.length_map, List.length_map, List.length_take, len_cps]
      have : z.cps.size = z.length := rfl
      omega
    · rw [upd_ne (ne_of_none z' nD)]
      exact s1 b o z'
    · rw [upd_same, take_succ_cps hc, List.map_append, List.map_append]
      rfl
  · rintro H ⟨s1, e1⟩
    refine hd H s1 ?_
    rw [e1, show z.cps.size = z.cps.toList.length from (Array.length_toList).symm, List.take_length]
end Cor

set_option Elab.async false
set_option linter.all false
set_option maxRecDepth 100000
set_option maxHeartbeats 1000000
namespace Law
open PySem PySem.Spec PyProof.Rows L2 Cor
def topS (i : Nat) : Stmt := PySem.Challenge.pw_corridors_k19_stores_read_and_shown.main.body.getD i (.Pass ⟨0, 0, 0, 0⟩)
abbrev sBox : Stmt := topS 24
abbrev sTake : Stmt := topS 25
theorem scBox : FnScope ["_law_script", "_law_k", "_law_own", "_law_cell", "_law_seed"] ["_law_script", "_law_k", "_law_own"] (defScope sBox) := ⟨rfl, rfl, rfl, by decide +kernel, rfl, by decide +kernel, by decide +kernel⟩
theorem scTake : FnScope ["_law_box_here", "_law_many", "_law_digit", "_law_raw", "_law_wide"] ["_law_box_here", "_law_many"] (defScope sTake) := ⟨rfl, rfl, rfl, by decide +kernel, rfl, by decide +kernel, by decide +kernel⟩
section
variable {P : Program} {w : World} {K : PySem.W.Frag} {mg : Str → Option Value} {base : Heap}
theorem ok_take {f : Addr} {fd : FuncData} (F : Fun K "_law_take" "_law_take" sTake f fd) (T : Glo mg) : FnOk P w K mg base CX0 1 f fd ["_law_box_here", "_law_many"] spTake := by
  refine F.ok scTake (fun vs H Q E h => ?_) (fun cdv A outer s H vs Q E hr h => ?_)
  · obtain ⟨p, m, rfl, _⟩ := h
    rfl
  · obtain ⟨p, m, rfl, ⟨b, s, c, hp, s0, s1⟩, m0, m1, k⟩ := h
    have hm : CDivW b m := wide_div m0 (by omega : m.natAbs < 2 ^ 90) (by decide) (by decide)
    refine ⟨_, (pss_cons (ps_if (pt_cmpR op_gt (pe_ix ix_list (pv 0) pe_int (fun _ _ => rfl)) pe_int (nomark _)) (pss_cons (ps_set (i := 2) scTake.nd rfl (Or.inl rfl) (pe_op op_mod (pe_ix ix_list (pv 0) pe_int (fun _ _ => rfl)) (pv 1)))
      (pss_cons (ps_asg (pe_op op_fdivW (pe_ix ix_list (pv 0) pe_int (fun _ _ => rfl)) (pv 1)) (pg_sub (pv 0) pe_int set_list))
      (pss_one (ps_ret (pv 2))))) pss_nil)
      (pss_cons (ps_asg (pe_op op_add (pe_ix ix_list (pv 0) pe_int (fun _ _ => rfl)) pe_int) (pg_sub (pv 0) pe_int set_list))
      (pss_cons (ps_set (i := 3) scTake.nd rfl (Or.inl rfl) (pe_op op_mod (pe_op op_mul (pe_op op_add (pe_ix ix_list (pv 0) pe_int (fun _ _ => rfl)) (pe_op op_mul pe_int (pe_ix ix_list (pv 0) pe_int (fun _ _ => rfl)))) pe_int) pe_int))
      (pss_cons (ps_asg (pe_op op_add (pe_op op_mod (pe_op op_add (pe_op op_mul (pv 3) pe_int) pe_int) pe_int) pe_int) (pg_sub (pv 0) pe_int set_list))
      (pss_cons (ps_if (pt_cmpR op_lt (pv 1) (pe_op op_pow pe_int pe_int) (nomark _)) (pss_one (ps_ret (pe_op op_mod (pe_op op_fdiv (pe_op op_add (pe_op op_mul (pv 3) pe_int) (pe_ix ix_list (pv 0) pe_int (fun _ _ => rfl))) pe_int) (pv 1)))) pss_nil)
      (pss_cons (ps_set (i := 4) scTake.nd rfl (Or.inl rfl) (pe_op op_mul (pe_op op_add (pe_op op_mul (pv 3) pe_int) (pe_ix ix_list (pv 0) pe_int (fun _ _ => rfl))) (pe_op op_pow pe_int pe_int)))
      (pss_one (ps_ret (pe_op op_mod (pe_op op_add (pe_op op_add (pv 4) (pe_op op_mul (pe_op op_pow (pe_ix ix_list (pv 0) pe_int (fun _ _ => rfl)) pe_int) pe_int)) (pv 3)) (pv 1)))))))))), ?_⟩
    refine ⟨_, rfl, p, _, _, _, rfl, rfl, SqL.of hp, rfl, _, _, rfl, rfl, _, rfl, ?_⟩
    refine ite2 (fun hb => ?_) (fun hb => ?_)
    · refine ⟨_, rfl, p, _, _, _, rfl, rfl, SqL.of hp, rfl, _, rfl, _, _, rfl, rfl, m0, ?_⟩
      refine ⟨_, rfl, p, _, _, _, rfl, rfl, SqL.of hp, rfl, _, rfl, _, _, rfl, rfl, hm, _, rfl, p, _, _, _, rfl, rfl, hp, rfl, ?_⟩
      refine ⟨_, rfl, ?_⟩
      exact k _ s c _ s0 s1 (Int.emod_nonneg _ (by omega)) (Int.emod_lt_of_pos _ m0)
    · refine ⟨_, rfl, p, _, _, _, rfl, rfl, SqL.of hp, rfl, _, _, rfl, rfl, _, rfl, p, _, _, _, rfl, rfl, hp, rfl, ?_⟩
      have h1 : (upd H p (.lst [.int b, .int s, .int (c + 1)])) p = some (.lst [.int b, .int s, .int (c + 1)]) := upd_same
      refine ⟨_, rfl, p, _, _, _, rfl, rfl, SqL.of h1, rfl, _, rfl, p, _, _, _, rfl, rfl, SqL.of h1, rfl, _, _, rfl, rfl, .inl ⟨by decide, by decide⟩, _, _, rfl, rfl, _, _, rfl, rfl, .inr ⟨by decide, by decide⟩, _, _, rfl, rfl, (by show (0 : Int) < 2147483647; decide), ?_⟩
      dsimp only
      generalize hraw : (s + 104729 * (c + 1)) * 69623 % 2147483647 = raw
      have r0 : 0 ≤ raw := by omega
      have r1 : raw < 2147483647 := by omega
      refine ⟨_, rfl, _, _, rfl, rfl, .inr ⟨by decide, by decide⟩, _, _, rfl, rfl, _, _, rfl, rfl, (by show (0 : Int) < 2147483629; decide), _, _, rfl, rfl, _, rfl, p, _, _, _, rfl, rfl, h1, rfl, ?_⟩
      dsimp only
      generalize hs2 : (raw * 48271 + 30103) % 2147483629 + 1 = s2
      have s20 : 0 ≤ s2 := by omega
      have s21 : s2 < 4294967296 := by omega
      have e2 : upd (upd H p (.lst [.int b, .int s, .int (c + 1)])) p (.lst [.int b, .int s2, .int (c + 1)]) = upd H p (.lst [.int b, .int s2, .int (c + 1)]) := upd_upd
      have h2 : (upd (upd H p (.lst [.int b, .int s, .int (c + 1)])) p (.lst [.int b, .int s2, .int (c + 1)])) p = some (.lst [.int b, .int s2, .int (c + 1)]) := upd_same
      have kk := fun r (r0 : 0 ≤ r) (r1 : r < m) => k b s2 (c + 1) r s20 s21 r0 r1
      rw [← e2] at kk
      refine ⟨_, rfl, _, _, rfl, rfl, ⟨by decide, by decide, by decide⟩, _, _, rfl, rfl, _, rfl, ?_⟩
      refine ite2 (fun hb => ?_) (fun hb => ?_)
      · refine ⟨_, rfl, _, _, rfl, rfl, .inr ⟨by decide, by decide⟩, _, rfl, p, _, _, _, rfl, rfl, SqL.of h2, rfl, _, _, rfl, rfl, _, _, rfl, rfl, ⟨by decide, by decide⟩, _, rfl, _, _, rfl, rfl, m0, ?_⟩
        exact kk _ (Int.emod_nonneg _ (by omega)) (Int.emod_lt_of_pos _ m0)
      · refine ⟨_, rfl, _, _, rfl, rfl, .inr ⟨by decide, by decide⟩, _, rfl, p, _, _, _, rfl, rfl, SqL.of h2, rfl, _, _, rfl, rfl, _, _, rfl, rfl, ⟨by decide, by decide, by decide⟩, _, _, rfl, rfl, .inl ⟨by omega, by omega⟩, ?_⟩
        refine ⟨_, rfl, _, rfl, p, _, _, _, rfl, rfl, SqL.of h2, rfl, _, _, rfl, rfl, ⟨by decide, by decide, by omega⟩, _, _, rfl, rfl, .inr ⟨by decide, by decide⟩, _, _, rfl, rfl, _, rfl, _, _, rfl, rfl, _, rfl, _, _, rfl, rfl, m0, ?_⟩
        exact kk _ (Int.emod_nonneg _ (by omega)) (Int.emod_lt_of_pos _ m0)
theorem atI_two {x y : V} (b : Bool) : atI [x, y] (if b = true then 1 else 0) = some (if b = true then y else x) := by cases b <;> rfl
theorem atI_ints {ns : List Int} {k : Int} (h : k < (ns.length : Int)) (h0 : 0 ≤ k) : atI (ns.map V.int) k = some (V.int (ns.getD k.toNat 0)) := by
  have hk : k.toNat < ns.length := by omega
  unfold atI ixN
  rw [List.length_map, if_pos h0, if_pos h]
  show (ns.map V.int)[k.toNat]? = _
  rw [List.getElem?_map, List.getElem?_eq_getElem hk]
  show some (V.int _) = _
  rw [List.getD_eq_getElem?_getD, List.getElem?_eq_getElem hk]
  rfl
theorem ok_box {f : Addr} {fd : FuncData} (F : Fun K "_law_box" "_law_box" sBox f fd) (T : Glo mg) : FnOk P w K mg base CX0 1 f fd ["_law_script", "_law_k", "_law_own"] (spBox K) := by
  refine F.ok scBox (fun vs H Q E h => ?_) (fun cdv A outer s H vs Q E hr h => ?_)
  · obtain ⟨a, ns, k, own, rfl, _⟩ := h
    rfl
  · obtain ⟨a, ns, k, own, rfl, hS, hl, k0, k1, o0, o1, q⟩ := h
    refine ⟨_, (pss_cons (ps_set (i := 3) scBox.nd rfl (Or.inl rfl) (pe_op op_add (pe_op op_add (pe_op op_mul pe_int (pv 1)) (pe_op op_mul pe_int (pv 2))) pe_int))
      (pss_cut (ps_if (pt_cmpR op_lt (pv 1) (pe_callB call_len_seq (by rfl) T.len PySem.boot_len (pa_cons (pv 0) pa_nil)) (nomark _)) (pss_one (ps_set (i := 3) scBox.nd rfl (Or.inl rfl) (pe_callB call_abs (by rfl) T.abs (by decide +kernel) (pa_cons (pe_ix ix_list (pv 0) (pv 1) (fun _ _ => rfl)) pa_nil)))) (pss_one (ps_if (pt_cmpR op_gt (pe_callB call_len_seq (by rfl) T.len PySem.boot_len (pa_cons (pv 0) pa_nil)) pe_int (nomark _)) (pss_one (ps_set (i := 3) scBox.nd rfl (Or.inl rfl) (pe_op op_add (pv 3) (pe_op op_mul (pe_op op_mod (pe_callB call_abs (by rfl) T.abs (by decide +kernel) (pa_cons (pe_ix ix_list (pv 0) (pe_op op_mod (pv 1) (pe_callB call_len_seq (by rfl) T.len PySem.boot_len (pa_cons (pv 0) pa_nil))) (fun _ _ => rfl)) pa_nil)) pe_int) pe_int)))) pss_nil)))
      (pss_cons (ps_set (i := 4) scBox.nd rfl (Or.inl rfl) (pe_op op_add (pe_op op_mod (pe_op op_add (pe_op op_mul (pe_op op_mod (pv 3) pe_int) pe_int) (pe_op op_mul pe_int (pe_op op_add (pv 1) (pe_op op_mul pe_int (pv 2))))) pe_int) pe_int))
      (pss_one (ps_ret (pe_lst (pa_cons (pe_ix ix_list (pe_lst (pa_cons pe_int (pa_cons (pv 3) pa_nil))) (pe_callTy call_int1 (by rfl) T.int (by decide +kernel) (pa_cons (pe_cmpR op_ge (pv 3) (pe_op op_pow pe_int pe_int) (nomark _)) pa_nil)) (fun _ _ => rfl)) (pa_cons (pv 4) (pa_cons pe_int pa_nil))))))))), ?_⟩
    refine ⟨_, rfl, _, _, rfl, rfl, .inl ⟨by decide, by decide⟩, _, rfl, _, _, rfl, rfl, .inl ⟨by decide, by decide⟩, _, _, rfl, rfl, _, _, rfl, rfl, ?_⟩
    refine ⟨fun σ' H' => ∃ cell : Int, σ' = [some (.ref a), some (.int k), some (.int own), some (.int cell), none] ∧ H' = H, ?_, ?_⟩
    · refine ⟨_, rfl, _, rfl, a, _, rfl, .inl hS, _, _, rfl, rfl, _, rfl, ?_⟩
      refine ite2 (fun hb => ?_) (fun hb => ?_)
      · have hk : k < (ns.length : Int) := by
          have z := of_decide_eq_true hb
          rw [List.length_map] at z
          exact z
        refine ⟨_, rfl, _, rfl, a, _, _, _, rfl, rfl, hS, (atI_ints hk k0), _, rfl, _, rfl, rfl⟩
      · refine ⟨_, rfl, a, _, rfl, .inl hS, _, _, rfl, rfl, _, rfl, ?_⟩
        refine ite2 (fun hc => ?_) (fun hc => ?_)
        · have hn : (0 : Int) < (ns.length : Int) := by
            have z := of_decide_eq_true hc
            rw [List.length_map] at z
            exact z
          refine ⟨_, rfl, _, rfl, _, rfl, _, rfl, a, _, rfl, .inl hS, _, _, rfl, rfl, (by rw [List.length_map]; exact hn), a, _, _, _, rfl, rfl, hS, (atI_ints (by rw [List.length_map]; exact Int.emod_lt_of_pos _ hn) (Int.emod_nonneg _ (by rw [List.length_map]; omega))), _, rfl, _, _, rfl, rfl, (by show (0 : Int) < 2147483629; decide), _, _, rfl, rfl, .inr ⟨by decide, by decide⟩, _, _, rfl, rfl, _, rfl, rfl⟩
        · exact ⟨_, rfl, rfl⟩
    · rintro σ' H' ⟨cell, rfl, rfl⟩
      refine ⟨_, rfl, _, _, rfl, rfl, (by show (0 : Int) < 2147483629; decide), _, _, rfl, rfl, .inr ⟨by decide, by decide⟩, _, rfl, _, rfl, _, _, rfl, rfl, .inl ⟨by decide, by decide⟩, _, _, rfl, rfl, _, _, rfl, rfl, .inl ⟨by decide, by decide⟩, _, _, rfl, rfl, _, _, rfl, rfl, (by show (0 : Int) < 2147483629; decide), _, _, rfl, rfl, ?_⟩
      refine ⟨_, rfl, (by show 2 ≤ sizeLine; decide), fun p0 n0 => ?_⟩
      refine ⟨_, rfl, _, _, rfl, rfl, ⟨by decide, by decide, by decide⟩, _, _, rfl, rfl, .inr ⟨_, rfl, ?_⟩⟩
      refine ⟨p0, _, _, _, rfl, rfl, SqL.of upd_same, atI_two _, _, rfl, (by show 3 ≤ sizeLine; decide), fun p1 n1 => ?_⟩
      have n10 : p1 ≠ p0 := fun z => by rw [z, upd_same] at n1; cases n1
      have n1' : H' p1 = none := by rw [upd_ne n10] at n1; exact n1
      dsimp only
      generalize hs2 : (cell % 2147483629 * 48271 + 40692 * (k + 11 * own)) % 2147483629 + 1 = s2
      have s20 : 0 ≤ s2 := by omega
      have s21 : s2 < 4294967296 := by omega
      have hv : ∃ b : Int, (if (decide (10 ^ (Int.toNat 18) ≤ cell)) = true then V.int cell else V.int 0) = V.int b := by
        cases decide (10 ^ (Int.toNat 18) ≤ cell)
        · exact ⟨0, rfl⟩
        · exact ⟨cell, rfl⟩
      obtain ⟨b, hb⟩ := hv
      refine q _ p1 (fun x o e => ?_) n1' ⟨b, s2, 0, by rw [← hb]; exact upd_same, s20, s21⟩
      rw [upd_ne (ne_of_none e n1'), upd_ne (ne_of_none e n0)]
      exact e
end
end Law

set_option Elab.async false
set_option linter.all false
set_option maxRecDepth 100000
set_option maxHeartbeats 1000000
namespace Law
open PySem PySem.Spec PyProof.Rows L2 Cor
/-- the names of the module words -/
structure GloP (K : PySem.W.Frag) (mg : Str → Option Value) : Prop extends Glo mg where
  all : mg "all" = none
  str : mg "str" = none
  tuple : mg "tuple" = none
  sorted : mg "sorted" = none
  enumerate : mg "enumerate" = none
  repr : mg "repr" = none
  list : mg "list" = none
  isinstance : mg "isinstance" = none
  letters : ∃ u, mg "LETTERS" = some u ∧ RelV (.str letS) u
  digits : ∃ u, mg "DIGITS" = some u ∧ RelV (.str digS) u
  lname : ∃ u, mg "LONGEST_NAME" = some u ∧ RelV (.int 6) u
  lfig : ∃ u, mg "LONGEST_FIGURE" = some u ∧ RelV (.int 20) u
  res : ∃ a, mg "RESERVED" = some (.ref a) ∧ ∀ H, SqT K H a (resW.map V.str)
abbrev sIsName : Stmt := topS 11
theorem scIsName : FnScope ["text", "sign"] ["text"] (defScope sIsName) := ⟨rfl, rfl, rfl, by decide +kernel, rfl, by decide +kernel, by decide +kernel⟩
abbrev sIsFig : Stmt := topS 12
theorem scIsFig : FnScope ["text", "sign"] ["text"] (defScope sIsFig) := ⟨rfl, rfl, rfl, by decide +kernel, rfl, by decide +kernel, by decide +kernel⟩
abbrev sFigOf : Stmt := topS 13
theorem scFigOf : FnScope ["text"] ["text"] (defScope sFigOf) := ⟨rfl, rfl, rfl, by decide +kernel, rfl, by decide +kernel, by decide +kernel⟩
abbrev sNumOf : Stmt := topS 14
theorem scNumOf : FnScope ["text", "found"] ["text"] (defScope sNumOf) := ⟨rfl, rfl, rfl, by decide +kernel, rfl, by decide +kernel, by decide +kernel⟩
def spIsFig : Sp := fun vs H Q _ => ∃ x : Str, vs = [.str x] ∧ x.length ≤ 100000 ∧ ∀ H', Same H H' → Q (.bl (figB x)) H'
def spFigOf : Sp := fun vs H Q _ => ∃ x : Str, vs = [.str x] ∧ x.length ≤ 100000 ∧ ∀ H', Same H H' → Q (optV (figT x)) H'
def spNumOf : Sp := fun vs H Q _ => ∃ x : Str, vs = [.str x] ∧ x.length ≤ 100000 ∧ ∀ H', Same H H' → Q (optV (numT x)) H'
def spIsName : Sp := fun vs H Q _ => ∃ x : Str, vs = [.str x] ∧ x.length ≤ 100000 ∧ ∀ H', Same H H' → Q (.bl (nameB x)) H'
section
variable {P : Program} {w : World} {K : PySem.W.Frag} {mg : Str → Option Value} {base : Heap}
theorem ok_isName {f : Addr} {fd : FuncData} (F : Fun K "is_name" "is_name" sIsName f fd) (T : GloP K mg) : FnOk P w K mg base CX0 1 f fd ["text"] spIsName := by
  refine F.ok scIsName (fun vs H Q E h => ?_) (fun cdv A outer s H vs Q E hr h => ?_)
  · obtain ⟨x, rfl, _⟩ := h
    rfl
  · obtain ⟨x, rfl, hl, q⟩ := h
    obtain ⟨uL, mL, rL⟩ := T.letters
    obtain ⟨uN, mN, rN⟩ := T.lname
    obtain ⟨aR, mR, qR⟩ := T.res
    refine ⟨_, (pss_cons (ps_if (PW.pt (pw_or (pt_not (pt_chain op_le op_le pe_int (pe_callB call_len (by rfl) T.len PySem.boot_len (pa_cons (pv 0) pa_nil)) (pe_glob (by rfl) mN rN))) (pw_or1 (pt_cmpR op_in_seq (pv 0) (pe_glob (v := .ref aR) (by rfl) mR rfl) (by rfl))))) (pss_one (ps_ret pe_bl)) pss_nil)
      (pss_one (ps_ret (pe_callB (cr_all rfl) (by rfl) T.all (by decide +kernel) (pa_cons (pe_lc (own := [("sign", 1)]) (g := gName 1) (by rfl) scIsName.nd (pi_str (pv 0)) (blkOk_by (own := [("sign", 1)]) (N := ["text", "sign"]) (sc := defScope sIsName) (by decide +kernel)) (fun _ _ _ _ _ => (pg_name (i := 1) scIsName.nd rfl (Or.inl rfl))) (fun _ _ _ _ _ => pts_nil) (fun _ _ _ _ _ => (pe_cmpR op_in_sign (pv 1) (pe_glob (by rfl) mL rL) (by rfl)))) pa_nil))))), ?_⟩
    have hz : x.length ≤ sizeLine := Nat.le_trans hl (by decide)
    have ret : ∀ {b : Bool}, nameB x = b → ∀ H', Same H H' → Q (.bl b) H' := fun e H' s => e ▸ q H' s
    refine ⟨_, rfl, .str x, x.length, rfl, ⟨hz, rfl⟩, _, _, rfl, rfl, _, rfl, ?_⟩
    refine ite2 (fun h1 => ?_) (fun h1 => ?_)
    · refine ⟨_, _, rfl, rfl, _, rfl, ?_⟩
      have g1 : 1 ≤ x.length := by have := of_decide_eq_true h1; omega
      refine ite2 (fun h2 => ?_) (fun h2 => ?_)
      · refine iteT (ret ?_ H fun _ _ z => z)
        have g2 : ¬ x.length ≤ 6 := by
          rw [Bool.not_eq_true'] at h2
          have := of_decide_eq_false h2
          omega
        unfold nameB
        rw [decide_eq_false g2, Bool.and_false, Bool.false_and]
      · have g2 : x.length ≤ 6 := by
          have h2' : decide (((x.length : Nat) : Int) ≤ 6) = true := by
            cases hd : decide (((x.length : Nat) : Int) ≤ 6) with
            | true => rfl
            | false => rw [hd] at h2; exact absurd rfl h2
          have := of_decide_eq_true h2'
          omega
        refine ⟨_, rfl, aR, _, rfl, .inr (qR _), rfl, rfl, _, rfl, ?_⟩
        refine ite2 (fun h3 => ?_) (fun h3 => ?_)
        · refine ret ?_ H fun _ _ z => z
          have h3' : inV (.str x) (resW.map V.str) = true := h3
          unfold nameB
          rw [h3', Bool.not_true, Bool.false_and, Bool.and_false]
        · refine ⟨_, rfl, x, rfl, fun D nD => lc_signs (p := isIn letS) nD hz (fun c H' => ⟨rfl, _, rfl, c, letS, rfl, rfl, rfl, rfl⟩) (fun h g => h _ _ g) ?_ (fun H' s1 e1 => ?_)⟩
          · rintro σ H' R R' hR ⟨v, e, c, z, e1, e2, q⟩
            exact ⟨v, e, c, z, e1, e2, hR _ _ q⟩
          · refine ⟨D, _, rfl, SqL.of e1, ret ?_ H' s1⟩
            have h3' : inV (.str x) (resW.map V.str) = false := by
              cases hd : inV (.str x) (resW.map V.str) with
              | false => rfl
              | true => exact absurd hd h3
            unfold nameB
            rw [h3', decide_eq_true g1, decide_eq_true g2]
            show x.cps.toList.all (isIn letS) = _
            rw [List.all_map]
            rfl
    · refine ⟨_, rfl, iteT (ret ?_ H fun _ _ z => z)⟩
      have g1 : ¬ 1 ≤ x.length := fun z => h1 (decide_eq_true (by omega))
      unfold nameB
      rw [decide_eq_false g1, Bool.false_and, Bool.false_and]
theorem ok_isFig {f : Addr} {fd : FuncData} (F : Fun K "is_figure" "is_figure" sIsFig f fd) (T : GloP K mg) : FnOk P w K mg base CX0 1 f fd ["text"] spIsFig := by
  refine F.ok scIsFig (fun vs H Q E h => ?_) (fun cdv A outer s H vs Q E hr h => ?_)
  · obtain ⟨x, rfl, _⟩ := h
    rfl
  · obtain ⟨x, rfl, hl, q⟩ := h
    obtain ⟨uL, mL, rL⟩ := T.digits
    obtain ⟨uN, mN, rN⟩ := T.lfig
    refine ⟨_, (pss_cons (ps_if (PW.pt (pw_or (pt_not (pt_chain op_le op_le pe_int (pe_callB call_len (by rfl) T.len PySem.boot_len (pa_cons (pv 0) pa_nil)) (pe_glob (by rfl) mN rN))) (pw_or1 (pt_not (pt_val (pe_callB (cr_all rfl) (by rfl) T.all (by decide +kernel) (pa_cons (pe_lc (own := [("sign", 1)]) (g := gName 1) (by rfl) scIsFig.nd (pi_str (pv 0)) (blkOk_by (own := [("sign", 1)]) (N := ["text", "sign"]) (sc := defScope sIsFig) (by decide +kernel)) (fun _ _ _ _ _ => (pg_name (i := 1) scIsFig.nd rfl (Or.inl rfl))) (fun _ _ _ _ _ => pts_nil) (fun _ _ _ _ _ => (pe_cmpR op_in_sign (pv 1) (pe_glob (by rfl) mL rL) (by rfl)))) pa_nil))))))) (pss_one (ps_ret pe_bl)) pss_nil)
      (pss_one (ps_ret (pe_or (pe_cmpR op_eq (pv 0) pe_str (nomark _)) (pe_one (pe_cmpR op_ne (pe_ix ix_str (pv 0) pe_int (fun _ _ => rfl)) pe_str (nomark _))))))), ?_⟩
    have hz : x.length ≤ sizeLine := Nat.le_trans hl (by decide)
    have ret : ∀ {b : Bool}, figB x = b → ∀ H', Same H H' → Q (.bl b) H' := fun e H' s => e ▸ q H' s
    refine ⟨_, rfl, .str x, x.length, rfl, ⟨hz, rfl⟩, _, _, rfl, rfl, _, rfl, ?_⟩
    refine ite2 (fun h1 => ?_) (fun h1 => ?_)
    · refine ⟨_, _, rfl, rfl, _, rfl, ?_⟩
      have g1 : 1 ≤ x.length := by have := of_decide_eq_true h1; omega
      refine ite2 (fun h2 => ?_) (fun h2 => ?_)
      · refine iteT (ret ?_ H fun _ _ z => z)
        have g2 : ¬ x.length ≤ 20 := by
          rw [Bool.not_eq_true'] at h2
          have := of_decide_eq_false h2
          omega
        unfold figB
        rw [decide_eq_false g2, Bool.and_false, Bool.false_and]
      · have g2 : x.length ≤ 20 := by
          have h2' : decide (((x.length : Nat) : Int) ≤ 20) = true := by
            cases hd : decide (((x.length : Nat) : Int) ≤ 20) with
            | true => rfl
            | false => rw [hd] at h2; exact absurd rfl h2
          have := of_decide_eq_true h2'
          omega
        refine ⟨_, rfl, x, rfl, fun D nD => lc_signs (p := isIn digS) nD hz (fun c H' => ⟨rfl, _, rfl, c, digS, rfl, rfl, rfl, rfl⟩) (fun h g => h _ _ g) ?_ (fun H' s1 e1 => ?_)⟩
        · rintro σ H' R R' hR ⟨v, e, c, z, e1, e2, q⟩
          exact ⟨v, e, c, z, e1, e2, hR _ _ q⟩
        refine ⟨D, _, rfl, SqL.of e1, _, rfl, ?_⟩
        have ea : (List.map (isIn digS) x.cps.toList).all id = x.cps.toList.all (isIn digS) := by rw [List.all_map]; rfl
        rw [ea]
        refine ite2 (fun h3 => ?_) (fun h3 => ?_)
        · refine ret ?_ H' s1
          have h3' : x.cps.toList.all (isIn digS) = false := by rw [Bool.not_eq_true'] at h3; exact h3
          unfold figB
          rw [h3', Bool.false_and, Bool.and_false]
        · have h3' : x.cps.toList.all (isIn digS) = true := by
            cases hd : x.cps.toList.all (isIn digS) with
            | true => rfl
            | false => rw [hd] at h3; exact absurd rfl h3
          refine ⟨_, rfl, rfl, _, rfl, ?_⟩
          have base0 : figB x = (decide (x = "0") || !decide (x.cps.toList.head? = some 48)) := by
            unfold figB
            rw [h3', decide_eq_true g1, decide_eq_true g2]
            rfl
          refine ite2 (fun h4 => ?_) (fun h4 => ?_)
          · have e4 : x = "0" := V.str.inj (of_decide_eq_true h4)
            exact ret (by rw [base0, decide_eq_true e4]; rfl) H' s1
          · have e4 : ¬ x = "0" := fun z => h4 (decide_eq_true (by rw [z]))
            have lc := len_cps x
            cases hx : x.cps.toList with
            | nil => rw [hx] at lc; exact absurd lc (by show ¬ 0 = x.length; omega)
            | cons c r =>
              refine ⟨_, rfl, x, 0, c, rfl, rfl, hz, by rw [hx]; exact atI_zero, rfl, ret ?_ H' s1⟩
              rw [base0, decide_eq_false e4, hx, Bool.false_or]
              refine congrArg (!·) ?_
              show decide (some c = some 48) = decide (V.str ⟨#[c]⟩ = V.str "0")
              by_cases hc : c = 48
              · subst hc
                rw [decide_eq_true rfl, decide_eq_true (by decide +kernel)]
              · rw [decide_eq_false (fun z => hc (Option.some.inj z)), decide_eq_false]
                intro z
                have z2 : (⟨#[c]⟩ : Str).cps.toList = ("0" : Str).cps.toList := congrArg (fun y : Str => y.cps.toList) (V.str.inj z)
                rw [show ("0" : Str).cps.toList = [48] from by decide +kernel] at z2
                exact hc (List.cons.inj z2).1
    · refine ⟨_, rfl, iteT (ret ?_ H fun _ _ z => z)⟩
      have g1 : ¬ 1 ≤ x.length := fun z => h1 (decide_eq_true (by omega))
      unfold figB
      rw [decide_eq_false g1, Bool.false_and, Bool.false_and]
theorem ok_figOf {f : Addr} {fd : FuncData} (F : Fun K "figure_of" "figure_of" sFigOf f fd) (T : GloP K mg) (di : Df P w K mg base "is_figure" 1 ["text"] spIsFig) : FnOk P w K mg base CX0 2 f fd ["text"] spFigOf := by
  refine F.ok scFigOf (k := 1) (fun vs H Q E h => ?_) (fun cdv A outer s H vs Q E hr h => ?_)
  · obtain ⟨x, rfl, _⟩ := h
    rfl
  · obtain ⟨x, rfl, hl, q⟩ := h
    refine ⟨_, (pss_one (ps_ret (pe_ifExp (pt_val (pe_df (E := E0) di hr (by rfl) (pa_cons (pv 0) pa_nil))) (pe_callTy call_int_str (by rfl) T.int (by decide +kernel) (pa_cons (pv 0) pa_nil)) pe_non))), ?_⟩
    refine ⟨_, rfl, x, rfl, hl, fun H' s1 => ⟨_, rfl, ?_⟩⟩
    refine ite2 (fun hb => ?_) (fun hb => ?_)
    · obtain ⟨h1, h2⟩ := fig_int hb
      refine ⟨_, rfl, x, _, rfl, h1, h2, ?_⟩
      have z := q H' s1
      unfold figT at z
      rw [if_pos hb] at z
      exact z
    · have z := q H' s1
      unfold figT at z
      rw [if_neg hb] at z
      exact z
theorem ok_numOf {f : Addr} {fd : FuncData} (F : Fun K "number_of" "number_of" sNumOf f fd) (T : GloP K mg) (di : Df P w K mg base "figure_of" 2 ["text"] spFigOf) : FnOk P w K mg base CX0 3 f fd ["text"] spNumOf := by
  refine F.ok scNumOf (k := 2) (fun vs H Q E h => ?_) (fun cdv A outer s H vs Q E hr h => ?_)
  · obtain ⟨x, rfl, _⟩ := h
    rfl
  · obtain ⟨x, rfl, hl, q⟩ := h
    refine ⟨_, (pss_cons (ps_if (pt_cmpR op_ne (pe_slice sl_str (pv 0) po_none (po_some pe_int)) pe_str (nomark _)) (pss_one (ps_ret (pe_df (E := E0) di hr (by rfl) (pa_cons (pv 0) pa_nil)))) pss_nil)
      (pss_cons (ps_set (i := 1) scNumOf.nd rfl (Or.inl rfl) (pe_df (E := E0) di hr (by rfl) (pa_cons (pe_slice sl_str (pv 0) (po_some pe_int) po_none) pa_nil)))
      (pss_one (ps_ret (pe_ifExp (pt_truth (pv 1) (by intro _; rfl)) (pe_un un_neg (pv 1)) pe_non))))), ?_⟩
    have hz : x.length ≤ sizeLine := Nat.le_trans hl (by decide)
    refine ⟨_, rfl, _, rfl, x, rfl, hz, rfl, _, rfl, ?_⟩
    rw [first_minus]
    refine ite2 (fun hb => ?_) (fun hb => ?_)
    · have h1 : ¬ x.cps.toList.head? = some 45 := by
        rw [Bool.not_eq_true'] at hb
        exact of_decide_eq_false hb
      refine ⟨_, rfl, x, rfl, hl, fun H' s1 => ?_⟩
      have z := q H' s1
      unfold numT at z
      rw [if_neg h1] at z
      exact z
    · have h1 : x.cps.toList.head? = some 45 := by
        cases hd : decide (x.cps.toList.head? = some 45) with
        | true => exact of_decide_eq_true hd
        | false => rw [hd] at hb; exact absurd rfl hb
      refine ⟨_, rfl, _, rfl, x, rfl, hz, _, rfl, ?_, fun H' s1 => ?_⟩
      · rw [show (some (1 : Int)) = some ((1 : Nat) : Int) from rfl, cut_from, SX.S_len, List.length_drop, len_cps]
        omega
      rw [show cutS x (some 1) none = tailS x from cut_from x 1]
      have z := q H' s1
      unfold numT at z
      rw [if_pos h1] at z
      cases hf : figT (tailS x) with
      | none =>
        rw [hf] at z
        exact ⟨_, rfl, false, rfl, z⟩
      | some n =>
        rw [hf] at z
        refine ⟨_, rfl, (n != 0), rfl, ?_⟩
        refine ite2 (fun hn => ?_) (fun hn => ?_)
        · have n0 : n ≠ 0 := by simpa using hn
          have z : Q (optV (if n = 0 then none else some (-n))) H' := z
          rw [if_neg n0] at z
          exact ⟨_, rfl, n, rfl, z⟩
        · have n0 : n = 0 := by simpa using hn
          have z : Q (optV (if n = 0 then none else some (-n))) H' := z
          rw [if_pos n0] at z
          exact z
end
end Law

set_option Elab.async false
set_option linter.all false
set_option maxRecDepth 100000
set_option maxHeartbeats 1000000
/-! a star in the targets: a, *rest = xs. -/
namespace Cor
open PySem PySem.Spec PyProof.Rows L2 PySem.Calls
section
variable {X : Cx}
def gStar (K : PySem.W.Frag) (n i : Nat) (t : TGs) : TG := fun v σ H Q => ∃ a xs, v = .ref a ∧ SqL K H a xs ∧ n ≤ xs.length + 1 ∧ xs.length ≤ 16384 ∧
  ∀ p, H p = none → t (xs.take i ++ [.ref p] ++ (xs.drop i).drop (xs.length + 1 - n)) σ (upd H p (.lst ((xs.drop i).take (xs.length + 1 - n)))) Q
theorem pgs_starred {e : Expr} {p : Pos} {es : List Expr} {t : TG} {u : TGs} (h1 : PG X e t) (h2 : PGs X es u)
    (hs : (assignEach (.Starred e p :: es) X.env).map (·.2) = assign e X.env :: (assignEach es X.env).map (·.2) := by rfl) : PGs X (.Starred e p :: es) (gCons t u) := by
  refine ⟨fun pins s σ H vs us Q I r h => ?_⟩
  obtain ⟨v, vr, e1, h⟩ := h
  subst e1
  cases r with
  | cons r rr =>
    rw [hs]
    refine assignInOrder_cons (thn (h1.run pins s σ H _ _ _ I r h) fun _ s1 ⟨σ1, H1, I1, q1⟩ => ?_)
    exact h2.run pins s1 σ1 H1 _ _ Q I1 rr q1
theorem vals_take {xs : List V} {us : List Value} (h : Vals xs us) : ∀ n, Vals (xs.take n) (us.take n) := by
  induction h with
  | nil => intro n; rw [List.take_nil, List.take_nil]; exact .nil
  | cons r t ih =>
    intro n
    cases n with
    | zero => exact .nil
    | succ n => exact .cons r (ih n)
theorem vals_drop {xs : List V} {us : List Value} (h : Vals xs us) : ∀ n, Vals (xs.drop n) (us.drop n) := by
  induction h with
  | nil => intro n; rw [List.drop_nil, List.drop_nil]; exact .nil
  | cons r t ih =>
    intro n
    cases n with
    | zero => exact .cons r t
    | succ n => exact ih n
theorem un_star {A : Around} {E : Value → Shared → Prop} {s : Shared} {prog : Program} {w : World} {l : Addr} {items : Array Value} {n i : Nat} {Q : List Value → Shared → Prop} (hl : s.heap.IsList l items) (hh : A.handled = none) (hi : i < n) (hn : n ≤ items.size + 1) (hz : items.size ≤ 16384)
    (h : ∀ (h₂ : Heap) (tk : Nat), (∀ b o, s.heap.get? b = some o → h₂.get? b = some o) → Q (items.toList.take i ++ [.ref h₂.objs.size] ++ (items.toList.drop i).drop (items.size + 1 - n)) { s with heap := h₂.push { cls := .type "list", data := .seq ((items.toList.drop i).take (items.size + 1 - n)).toArray }, toks := tk }) :
    wpAny (model prog w) A (unpackItems (.ref l) n (some i)) Q E s := by
  have hlt : l ≠ s.heap.objs.size := by obtain ⟨o, ho, _⟩ := hl; exact Nat.ne_of_lt (Heap.lt_size ho)
  unfold unpackItems
  refine wpAny_bind ?_
  unfold notIterableAtAll
  refine wpAny_bind (wpAny_specialOf hl.typeIs PySem.F.slot_list_iter.lookup ?_)
  refine wpAny_pure ?_
  simp only [Bool.false_eq_true, if_false]
  refine wpAny_bind (wpAny_holding (wpAny_pyIter_list hl ?_))
  refine wpAny_bind (wpAny_holding (PySem.W.kun_draw hlt i 0 _ _ ⟨_, Heap.get?_push_size _ rfl, rfl, rfl⟩ (hl.push _) (by omega) fun h₁ hit₁ hs₁ => ?_))
  have hl₁ : h₁.IsList l items := (hl.push _).extBut hs₁.extBut hlt
  rw [Nat.zero_add] at hit₁
  have hit₁' := hit₁
  obtain ⟨oi, hoi, _⟩ := hit₁'
  have hl₁' := hl₁
  obtain ⟨ol, hol, _⟩ := hl₁'
  rw [List.drop_zero]
  have hfl : (items.toList.take i).length = i := by rw [List.length_take, Array.length_toList]; omega
  rw [if_neg (show ¬ ((items.toList.take i).length < i) by rw [hfl]; omega)]
  refine wpAny_bind (wpAny_holding (PySem.W.kun_collect (s := { s with heap := h₁ }) (T := "list_iterator") (.inr (.inr (.inl rfl))) (Walks.list (A := A.in1) hh s.heap.objs.size l hlt items) (fun j u st => st.1.typeIs) (k := i) (by omega) ⟨hit₁, hl₁⟩ (Heap.lt_size hoi) (Heap.lt_size hol) (fun h₂ tk hk => ?_) (by rw [sizeLine_eq]; omega)))
  have hrl : (items.toList.drop i).length = items.size - i := by rw [List.length_drop, Array.length_toList]
  have hmid : (items.toList.drop i).length - (n - 1 - i) = items.size + 1 - n := by rw [hrl]; omega
  show wpAny _ _ (if (items.toList.drop i).length < n - 1 - i then _ else _) _ _ _
  rw [if_neg (by rw [hrl]; omega)]
  show wpAny _ _ (newList ((items.toList.drop i).take ((items.toList.drop i).length - (n - 1 - i))) >>= fun d => pure (items.toList.take i ++ [d] ++ (items.toList.drop i).drop ((items.toList.drop i).length - (n - 1 - i)))) _ _ _
  rw [hmid]
  refine wpAny_bind (wpAny_newList (wpAny_pure (h h₂ tk fun b o e => ?_)) (by rw [List.length_take, hrl, sizeLine_eq]; omega))
  have hb : b ≠ s.heap.objs.size := Nat.ne_of_lt (Heap.lt_size e)
  exact hk b o hb (hs₁.extBut b o hb (Heap.get?_push_of_some _ e))
theorem pg_star {es : List Expr} {k : Nat} {pos : Pos} {t : TGs} {n i : Nat} (hc : X.calm = true) (h : PGs X es t)
    (hn : (assignEach es X.env).length = n := by rfl) (hst : (assignEach es X.env).findIdx? (·.1) = some i := by rfl) (hi : i < n := by decide) : PG X (.Tuple es k pos) (gStar X.K n i t) := by
  refine ⟨fun pins s σ H v u Q I r hw => ?_⟩
  obtain ⟨a, xs, e1, hq, hl, hz, hw⟩ := hw
  subst e1
  cases r
  obtain ⟨its, rv, hL, _⟩ := I.list hq
  have hsz : its.length = xs.length := rv.length.symm
  rw [assign_Tuple]
  refine wpAny_bind (wpAny_standAt ?_)
  unfold unpack
  rw [hn, hst]
  have hsz' : its.toArray.size = xs.length := by rw [List.size_toArray]; exact hsz
  refine wpAny_bind (wpAny_holding (un_star (items := its.toArray) hL.isList (I.ok.hd hc) hi (by rw [hsz']; exact hl) (by rw [hsz']; exact hz) fun h₂ tk hk => ?_))
  have I1 : Inv X pins σ H { s with heap := h₂, toks := tk } := I.kept (t' := tk) hk
  have hf : H h₂.objs.size = none := I1.hok.fresh (Nat.le_refl _)
  rw [hsz'] at *
  have I2 : Inv X pins σ (upd H h₂.objs.size (.lst ((xs.drop i).take (xs.length + 1 - n)))) { s with heap := h₂.push { cls := .type "list", data := .seq ((its.drop i).take (xs.length + 1 - n)).toArray }, toks := tk } := by
    refine I1.laid (t' := tk) (fun b u e => Heap.get?_push_of_some _ e) (Nat.le_refl _) ?_
    refine ⟨?_, _, 0, vals_take (vals_drop rv i) _, Heap.get?_push_size _ rfl⟩
    rw [List.length_take, sizeLine_eq]
    omega
  refine h.run pins _ σ _ _ _ Q I2 ?_ (hw _ hf)
  exact ((vals_take rv i).append (.cons (show RelV (.ref h₂.objs.size) (Value.ref h₂.objs.size) from rfl) .nil)).append (vals_drop (vals_drop rv i) _)
end
end Cor

set_option Elab.async false
set_option linter.all false
set_option maxRecDepth 100000
set_option maxHeartbeats 1000000
/-! texts cut at one sign, and put together again. -/
namespace Cor
open PySem PySem.Spec PyProof.Rows L2
/-- signs of ASCII -/
def A7 (x : Str) : Prop := ∀ c ∈ x.cps.toList, c < 128
theorem pre_one (c d : Nat) (r : List Nat) : TL.pre [c] (d :: r) = (d == c) := by
  show (([d] : List Nat) == [c]) = (d == c)
  show (d == c && ([] == ([] : List Nat))) = (d == c)
  rw [show (([] : List Nat) == []) = true from rfl, Bool.and_true]
theorem spl_cons (c d : Nat) (acc r : List Nat) : TL.spl [c] 0 acc (d :: r) = if d = c then acc :: TL.spl [c] 0 [] r else TL.spl [c] 0 (acc ++ [d]) r := by
  show (if TL.pre [c] (d :: r) = true then acc :: TL.spl [c] 0 [] r else TL.spl [c] 0 (acc ++ [d]) r) = _
  rw [pre_one]
  by_cases h : d = c
  · rw [if_pos h, if_pos (beq_iff_eq.mpr h)]
  · rw [if_neg h, if_neg (fun z => h (beq_iff_eq.mp z))]
theorem spl_ne (c : Nat) : ∀ (l acc : List Nat), TL.spl [c] 0 acc l ≠ []
  | [], acc => by show [acc] ≠ []; simp
  | d :: r, acc => by
    rw [spl_cons]
    split
    · simp
    · exact spl_ne c r _
theorem joinL_cons (S p : List Nat) {ps : List (List Nat)} (h : ps ≠ []) : TL.joinL S (p :: ps) = p ++ (S ++ TL.joinL S ps) := by
  cases ps with
  | nil => exact absurd rfl h
  | cons q r => rfl
theorem joinL_spl (c : Nat) : ∀ (l acc : List Nat), TL.joinL [c] (TL.spl [c] 0 acc l) = acc ++ l
  | [], acc => by
    show acc = acc ++ []
    rw [List.append_nil]
  | d :: r, acc => by
    rw [spl_cons]
    split
    · rename_i h
      subst h
      rw [joinL_cons _ _ (spl_ne _ _ _), joinL_spl d r []]
      rfl
    · rw [joinL_spl c r, List.append_assoc]
      rfl
theorem spl_free (c : Nat) : ∀ (l acc : List Nat), c ∉ acc → ∀ p ∈ TL.spl [c] 0 acc l, c ∉ p
  | [], acc, h, p, hp => by
    rw [show p = acc from List.mem_singleton.mp hp]
    exact h
  | d :: r, acc, h, p, hp => by
    rw [spl_cons] at hp
    split at hp
    · rcases List.mem_cons.mp hp with rfl | hp
      · exact h
      · exact spl_free c r [] (by simp) p hp
    · rename_i hd
      exact spl_free c r _ (fun z => by
        rcases List.mem_append.mp z with z | z
        · exact h z
        · exact hd (List.mem_singleton.mp z).symm) p hp
theorem spl_sub (c : Nat) : ∀ (l acc p : List Nat), p ∈ TL.spl [c] 0 acc l → p.length ≤ acc.length + l.length ∧ ∀ d ∈ p, d ∈ acc ∨ d ∈ l
  | [], acc, p, hp => by
    rw [show p = acc from List.mem_singleton.mp hp]
    exact ⟨Nat.le_refl _, fun d hd => .inl hd⟩
  | e :: r, acc, p, hp => by
    rw [spl_cons] at hp
    split at hp
    · rcases List.mem_cons.mp hp with rfl | hp
      · exact ⟨Nat.le_add_right _ _, fun d hd => .inl hd⟩
      · obtain ⟨h1, h2⟩ := spl_sub c r [] p hp
        refine ⟨?_, fun d hd => (h2 d hd).elim (fun z => nomatch z) fun z => .inr (List.mem_cons_of_mem _ z)⟩
        rw [List.length_cons]
        rw [List.length_nil] at h1
        omega
    · obtain ⟨h1, h2⟩ := spl_sub c r _ p hp
      refine ⟨?_, fun d hd => (h2 d hd).elim (fun z => ?_) fun z => .inr (List.mem_cons_of_mem _ z)⟩
      · rw [List.length_append, List.length_singleton] at h1
        rw [List.length_cons]
        omega
      · rcases List.mem_append.mp z with z | z
        · exact .inl z
        · exact .inr (by rw [List.mem_singleton.mp z]; exact List.mem_cons_self)
theorem spl_count (c : Nat) : ∀ (l acc : List Nat), (TL.spl [c] 0 acc l).length ≤ l.length + 1
  | [], acc => Nat.le_refl _
  | d :: r, acc => by
    rw [spl_cons]
    split
    · have := spl_count c r []
      rw [List.length_cons, List.length_cons]
      omega
    · have := spl_count c r (acc ++ [d])
      rw [List.length_cons]
      omega
/-- one sign as a text -/
structure One1 (y : Str) (c : Nat) : Prop where
  e : y.cps.toList = [c]
  k : c < 256
theorem split_eq {y : Str} {c : Nat} (h : One1 y c) (x : Str) : (Txt.split x y).map TL.tl = TL.spl [c] 0 [] x.cps.toList := by
  have e : TL.tl y = [c] := h.e
  have z := TL.split_spl x y (by rw [e]; simp) (TL.kind_ok (by
    rw [← Array.all_toList, h.e]
    show (decide (c < 256) && true) = true
    rw [decide_eq_true h.k]; rfl))
  rw [e] at z
  exact z
theorem split_ne {y : Str} {c : Nat} (h : One1 y c) (x : Str) : Txt.split x y ≠ [] := fun z => by
  have e := split_eq h x
  rw [z] at e
  exact spl_ne c _ _ e.symm
theorem split_back {y : Str} {c : Nat} (h : One1 y c) (x : Str) : Txt.join y (Txt.split x y) = x := by
  rw [TL.join_eq]
  refine TL.ext_tl ?_
  rw [TL.tl_join, split_eq h, show TL.tl y = [c] from h.e, joinL_spl]
  rfl
theorem split_mem {y : Str} {c : Nat} (h : One1 y c) {x p : Str} (hp : p ∈ Txt.split x y) : p.length ≤ x.length ∧ (∀ d ∈ p.cps.toList, d ∈ x.cps.toList) ∧ c ∉ p.cps.toList := by
  have hm : TL.tl p ∈ TL.spl [c] 0 [] x.cps.toList := by
    rw [← split_eq h x]
    exact List.mem_map_of_mem hp
  obtain ⟨h1, h2⟩ := spl_sub c _ _ _ hm
  refine ⟨?_, fun d hd => (h2 d hd).elim (fun z => nomatch z) id, spl_free c _ [] (by simp) _ hm⟩
  rw [← len_cps, ← len_cps]
  rw [List.length_nil, Nat.zero_add] at h1
  exact h1
theorem split_count {y : Str} {c : Nat} (h : One1 y c) (x : Str) : (Txt.split x y).length ≤ x.length + 1 := by
  have e := congrArg List.length (split_eq h x)
  rw [List.length_map] at e
  rw [e, ← len_cps]
  exact spl_count c _ _
theorem split_parts {y : Str} {c : Nat} (h : One1 y c) {ps : List Str} (hne : ps ≠ []) (hp : ∀ p ∈ ps, c ∉ p.cps.toList) : Txt.split (Txt.join y ps) y = ps := by
  rw [TL.join_eq]
  refine TL.map_tl_inj ?_
  rw [split_eq h]
  show TL.spl [c] 0 [] (TL.tl (Str.join y ps)) = _
  rw [TL.tl_join, show TL.tl y = [c] from h.e]
  refine TL.spl_join (fun z => hne (List.map_eq_nil_iff.mp z)) fun p hm => ?_
  obtain ⟨q, hq, rfl⟩ := List.mem_map.mp hm
  exact hp q hq
/-! ### data made of texts -/
theorem A7.ok {x : Str} (h : A7 x) : PyData.strOk x = true := by
  unfold PyData.strOk
  rw [Array.all_eq_true]
  intro i hi
  exact decide_eq_true (Nat.lt_trans (h x.cps[i] (Array.mem_toList_iff.mpr (Array.getElem_mem hi))) (by decide))
def strsD (ns : List Str) : List PyData := ns.map .str
def pathD (ns : List Str) : PyData := .tuple (strsD ns)
theorem dp_strs {K : PySem.W.Frag} {H : Hp} : ∀ ns : List Str, DpAll K H (ns.map V.str) (strsD ns)
  | [] => .nil
  | n :: ns => .cons (.str n) (dp_strs ns)
theorem lay_strs : ∀ {ns : List Str}, (∀ n ∈ ns, A7 n) → PyData.canLayAll0 (strsD ns) = true
  | [], _ => rfl
  | n :: ns, h => by
    show (PyData.strOk n && PyData.canLayAll0 (strsD ns)) = true
    rw [(h n List.mem_cons_self).ok, lay_strs fun m hm => h m (List.mem_cons_of_mem _ hm)]
    rfl
theorem depth_strs : ∀ ns : List Str, PyData.depthAll (strsD ns) = 0
  | [] => rfl
  | n :: ns => by
    show max 0 (PyData.depthAll (strsD ns)) = 0
    rw [depth_strs ns]; rfl
theorem shaped_strs {ns : List Str} (h : ∀ n ∈ ns, A7 n) : SeqAt.shaped (.list (strsD ns)) = true := by
  unfold SeqAt.shaped
  have e : PyData.depth (.list (strsD ns)) ≤ 64 := by
    show PyData.depthAll (strsD ns) + 1 ≤ 64
    rw [depth_strs]
    decide
  rw [decide_eq_true e, show PyData.canLay0 (.list (strsD ns)) = PyData.canLayAll0 (strsD ns) from rfl, lay_strs h]
  rfl
theorem shaped_path {ns : List Str} (h : ∀ n ∈ ns, A7 n) : SeqAt.shaped (pathD ns) = true := by
  unfold SeqAt.shaped
  have e : PyData.depth (pathD ns) ≤ 64 := by
    show PyData.depthAll (strsD ns) + 1 ≤ 64
    rw [depth_strs]
    decide
  rw [decide_eq_true e, show PyData.canLay0 (pathD ns) = PyData.canLayAll0 (strsD ns) from rfl, lay_strs h]
  rfl
theorem lay_paths : ∀ {pss : List (List Str)}, (∀ ps ∈ pss, ∀ n ∈ ps, A7 n) → PyData.canLayAll0 (pss.map pathD) = true
  | [], _ => rfl
  | ps :: pss, h => by
    show (PyData.canLayAll0 (strsD ps) && PyData.canLayAll0 (pss.map pathD)) = true
    rw [lay_strs (h ps List.mem_cons_self), lay_paths fun m hm => h m (List.mem_cons_of_mem _ hm)]
    rfl
theorem depth_paths : ∀ pss : List (List Str), PyData.depthAll (pss.map pathD) ≤ 1
  | [] => by decide
  | ps :: pss => by
    show max (PyData.depthAll (strsD ps) + 1) (PyData.depthAll (pss.map pathD)) ≤ 1
    rw [depth_strs]
    have := depth_paths pss
    omega
theorem shaped_paths {pss : List (List Str)} (h : ∀ ps ∈ pss, ∀ n ∈ ps, A7 n) : SeqAt.shaped (.list (pss.map pathD)) = true := by
  unfold SeqAt.shaped
  have e : PyData.depth (.list (pss.map pathD)) ≤ 64 := by
    show PyData.depthAll (pss.map pathD) + 1 ≤ 64
    have := depth_paths pss
    omega
  rw [decide_eq_true e, show PyData.canLay0 (.list (pss.map pathD)) = PyData.canLayAll0 (pss.map pathD) from rfl, lay_paths h]
  rfl
theorem eqv_strs : ∀ a b : List Str, PyData.eqvAll (strsD a) (strsD b) = decide (a = b)
  | [], [] => rfl
  | [], _ :: _ => rfl
  | _ :: _, [] => rfl
  | x :: a, y :: b => by
    show ((x == y) && PyData.eqvAll (strsD a) (strsD b)) = decide (x :: a = y :: b)
    rw [eqv_strs a b]
    by_cases h : x = y
    · subst h
      rw [beq_self_eq_true, Bool.true_and]
      by_cases h2 : a = b
      · subst h2
        rw [decide_eq_true rfl, decide_eq_true rfl]
      · rw [decide_eq_false h2, decide_eq_false fun z => h2 (List.cons.inj z).2]
    · rw [beq_eq_false_iff_ne.mpr h, Bool.false_and, decide_eq_false fun z => h (List.cons.inj z).1]
theorem eqv_path (a b : List Str) : PyData.eqv (pathD a) (pathD b) = decide (a = b) := eqv_strs a b
theorem one_slash : One1 "/" 47 := ⟨by decide +kernel, by decide⟩
theorem one_blank : One1 " " 32 := ⟨by decide +kernel, by decide⟩
theorem one_line : One1 "\n" 10 := ⟨by decide +kernel, by decide⟩
end Cor

set_option Elab.async false
set_option linter.all false
set_option maxRecDepth 100000
set_option maxHeartbeats 1000000
namespace Law
open PySem PySem.Spec PyProof.Rows L2 Cor
abbrev sPathOf : Stmt := topS 16
theorem scPathOf : FnScope ["text", "first", "names", "name"] ["text"] (defScope sPathOf) := ⟨rfl, rfl, rfl, by decide +kernel, rfl, by decide +kernel, by decide +kernel⟩
def namesOf (ps : List Str) : Option (List Str) := match ps with
  | [] => none
  | first :: names => if first = "" ∧ names ≠ [] ∧ names.all nameB = true then some names else none
def pathT (x : Str) : Option (List Str) := if x = "/" then some [] else namesOf (Txt.split x "/")
def spPathOf : Sp := fun vs H Q _ => ∃ x : Str, vs = [.str x] ∧ x.length ≤ 10000 ∧ A7 x ∧ (pathT x = none → ∀ H', Same H H' → Q .non H') ∧ (∀ ns, pathT x = some ns → ∀ p H', Same H H' → H' p = some (.tup (ns.map V.str)) → Q (.ref p) H')
section
variable {P : Program} {w : World} {K : PySem.W.Frag} {mg : Str → Option Value} {base : Heap}
theorem ok_pathOf {f : Addr} {fd : FuncData} (F : Fun K "path_of" "path_of" sPathOf f fd) (T : GloP K mg) (dn : Df P w K mg base "is_name" 1 ["text"] spIsName) : FnOk P w K mg base CX0 2 f fd ["text"] spPathOf := by
  refine F.ok scPathOf (k := 1) (fun vs H Q E h => ?_) (fun cdv A outer s H vs Q E hr h => ?_)
  · obtain ⟨x, rfl, _⟩ := h
    rfl
  · obtain ⟨x, rfl, hl, h7, q0, q1⟩ := h
    refine ⟨_, (pss_cons (ps_if (pt_cmpR op_eq (pv 0) pe_str (nomark _)) (pss_one (ps_ret (pe_tup pa_nil))) pss_nil)
      (pss_cons (ps_asg (pe_split (pv 0) pe_str) (pg_star (n := 2) (i := 1) rfl (pgs_cons (pg_name (i := 1) scPathOf.nd rfl (Or.inl rfl)) (pgs_starred (pg_name (i := 2) scPathOf.nd rfl (Or.inl rfl)) pgs_nil))))
      (pss_cons (ps_if (PW.pt (pw_or (pt_cmpR op_ne (pv 1) pe_str (nomark _)) (pw_or (pt_cmpR (op_eqD hr.units) (pv 2) (pe_lst pa_nil) (nomark _)) (pw_or1 (pt_not (pt_val (pe_callB (cr_all rfl) (by rfl) T.all (by decide +kernel) (pa_cons (pe_lc (own := [("name", 3)]) (g := gName 3) (by rfl) scPathOf.nd (pi_list (pv 2)) (blkOk_by (own := [("name", 3)]) (N := ["text", "first", "names", "name"]) (sc := defScope sPathOf) (by decide +kernel)) (fun _ _ _ _ _ => (pg_name (i := 3) scPathOf.nd rfl (Or.inl rfl))) (fun _ _ _ _ _ => pts_nil) (fun _ _ _ _ _ => (pe_df (E := E0) dn hr (by rfl) (pa_cons (pv 3) pa_nil)))) pa_nil)))))))) (pss_one (ps_ret pe_non)) pss_nil)
      (pss_one (ps_ret (pe_callTy call_tuple_of (by rfl) T.tuple (by decide +kernel) (pa_cons (pv 2) pa_nil))))))), ?_⟩
    refine ⟨_, rfl, rfl, _, rfl, ?_⟩
    refine ite2 (fun hb => ?_) (fun hb => ?_)
    · have e : x = "/" := V.str.inj (of_decide_eq_true hb)
      refine ⟨(by show 0 ≤ sizeLine; decide), fun p np => q1 [] (by unfold pathT; rw [if_pos e]) p _ (same_upd np) upd_same⟩
    have ne : ¬ x = "/" := fun z => hb (decide_eq_true (by rw [z]))
    have pt : pathT x = namesOf (Txt.split x "/") := by unfold pathT; rw [if_neg ne]
    have hsz : x.length + 2 ≤ sizeLine := Nat.le_trans (show x.length + 2 ≤ 10002 by omega) (by decide)
    refine ⟨_, rfl, ⟨_, rfl⟩, x, "/", rfl, rfl, by decide +kernel, hsz, fun L nL => ?_⟩
    have s1 := same_upd (o := .lst ((Txt.split x "/").map V.str)) nL
    have cnt := split_count one_slash x
    have mem : ∀ p ∈ Txt.split x "/", p.length ≤ x.length ∧ A7 p := fun p hp => ⟨(split_mem one_slash hp).1, fun c hc => h7 c ((split_mem one_slash hp).2.1 c hc)⟩
    cases hsp : Txt.split x "/" with
    | nil => exact absurd hsp (split_ne one_slash x)
    | cons first names =>
      rw [hsp] at cnt mem s1 pt
      refine ⟨L, (first :: names).map V.str, rfl, SqL.of upd_same, (by rw [List.length_map, List.length_cons]; omega), (by rw [List.length_map]; exact Nat.le_trans cnt (by omega)), fun N nN => ?_⟩
      have eT : (List.take (((first :: names).map V.str).length + 1 - 2) (List.drop 1 ((first :: names).map V.str))) = names.map V.str := by
        simp only [List.map_cons, List.length_cons, List.length_map, List.drop_succ_cons, List.drop_zero]
        exact List.take_of_length_le (by rw [List.length_map]; omega)
      have eD : List.drop (((first :: names).map V.str).length + 1 - 2) (List.drop 1 ((first :: names).map V.str)) = [] := by simp
      rw [eT, eD]
      have s2 := same_upd (o := .lst (names.map V.str)) nN
      have s12 : Same H (upd (upd H L (.lst ((first :: names).map V.str))) N (.lst (names.map V.str))) := fun b o z => s2 b o (s1 b o z)
      have eN : (upd (upd H L (.lst ((first :: names).map V.str))) N (.lst (names.map V.str))) N = some (.lst (names.map V.str)) := upd_same
      generalize (upd (upd H L (.lst ((first :: names).map V.str))) N (.lst (names.map V.str))) = H2 at s12 eN ⊢
      have n7 : ∀ n ∈ names, A7 n := fun n hn => (mem n (List.mem_cons_of_mem _ hn)).2
      have no : (¬ (first = "" ∧ names ≠ [] ∧ names.all nameB = true)) → ∀ H', Same H2 H' → Q .non H' := fun h H' sx => q0 (by rw [pt]; unfold namesOf; exact if_neg h) H' fun b o z => sx b o (s12 b o z)
      refine ⟨_, _, rfl, _, _, rfl, rfl, _, rfl, rfl, _, rfl, ?_⟩
      refine ite2 (fun h1 => ?_) (fun h1 => ?_)
      · refine no (fun z => ?_) H2 fun _ _ z => z
        rw [z.1] at h1
        exact absurd h1 (by decide +kernel)
      have e1 : first = "" := by
        cases hd : decide (V.str first = V.str "") with
        | true => exact V.str.inj (of_decide_eq_true hd)
        | false => rw [hd] at h1; exact absurd rfl h1
      refine ⟨_, rfl, (by show 0 ≤ sizeLine; decide), fun p0 n0 => ?_⟩
      have s3 := same_upd (o := .lst []) n0
      refine ⟨.list (strsD names), .list (strsD []), .lst (SqL.of (s3 _ _ eN)) (dp_strs names), .lst (SqL.of upd_same) .nil, shaped_strs n7, shaped_strs (fun n hn => nomatch hn), _, rfl, ?_⟩
      rw [show PyData.eqv (.list (strsD names)) (.list (strsD [])) = decide (names = []) from eqv_strs names []]
      have s23 : Same H2 (upd H2 p0 (.lst [])) := s3
      have eN3 := s3 _ _ eN
      generalize (upd H2 p0 (.lst [])) = H3 at s23 eN3 ⊢
      refine ite2 (fun h2 => ?_) (fun h2 => ?_)
      · exact no (fun z => z.2.1 (of_decide_eq_true h2)) H3 s23
      have e2 : names ≠ [] := fun z => h2 (decide_eq_true z)
      refine ⟨_, rfl, N, rfl, ⟨_, SqL.of eN3⟩, fun D nD => lc_list (xs := names.map V.str) (fun i H' => Same H3 H' ∧ H' D = some (.lst (((names.take i).map nameB).map V.bl))) ?_ ?_ ?_ ?_⟩
      · exact ⟨same_upd nD, upd_same⟩
      · rintro i H' _ ⟨sx, _⟩
        exact SqL.of (sx _ _ eN3)
      · rintro i v H' hv ⟨sx, eD'⟩
        rw [List.getElem?_map] at hv
        obtain ⟨n, hn, rfl⟩ := Option.map_eq_some_iff.mp hv
        have hm := List.mem_of_getElem? hn
        have ln := (mem n (List.mem_cons_of_mem _ hm)).1
        refine ⟨rfl, _, rfl, n, rfl, by omega, fun H4 s4 => ⟨_, s4 _ _ eD', ?_, fun b o z => ?_, ?_⟩⟩
        · rw [List.length_map, List.length_map, List.length_take]
          have : names.length ≤ x.length := by rw [List.length_cons] at cnt; omega
          exact Nat.lt_of_le_of_lt (Nat.le_trans (Nat.min_le_right _ _) this) (Nat.lt_of_le_of_lt hl (by decide))
        · rw [upd_ne (ne_of_none z nD)]
          exact s4 b o (sx b o z)
        · rw [upd_same, List.take_succ, hn]
          simp
      · rintro H4 ⟨sx, eD'⟩
        rw [List.length_map, List.take_length] at eD'
        refine ⟨D, _, rfl, SqL.of eD', _, rfl, ?_⟩
        have ea : (names.map nameB).all id = names.all nameB := by rw [List.all_map]; rfl
        rw [ea]
        have s24 : Same H2 H4 := fun b o z => sx b o (s23 b o z)
        refine ite2 (fun h3 => ?_) (fun h3 => ?_)
        · refine no (fun z => ?_) H4 s24
          rw [z.2.2] at h3
          cases h3
        · have e3 : names.all nameB = true := by
            cases hd : names.all nameB with
            | true => rfl
            | false => rw [hd] at h3; exact absurd rfl h3
          refine ⟨_, rfl, N, _, rfl, .inl ⟨SqL.of (s24 _ _ eN), fun p np => ?_⟩⟩
          exact q1 names (by rw [pt]; unfold namesOf; exact if_pos ⟨e1, e2, e3⟩) p _ (fun b o z => same_upd np b o (s24 b o (s12 b o z))) upd_same
end
end Law

set_option Elab.async false
set_option linter.all false
set_option maxRecDepth 100000
set_option maxHeartbeats 1000000
/-! <= of tuples of texts. -/
namespace Cor
open PySem PySem.Spec PyProof.Rows L2
/-- y ≤ x of texts, by code points -/
def leS (x y : Str) : Bool := !decide (y.cps.toList < x.cps.toList)
/-- path ≤ path, from the first pair that differs on -/
def pathLe : List Str → List Str → Bool
  | [], _ => true
  | _ :: _, [] => false
  | x :: xs, y :: ys => if x = y then pathLe xs ys else leS x y
theorem lex_path : ∀ (xs ys pre pre' : List Str), pre.length = pre'.length →
    Ob.lexAt (fun j => decide ((pre ++ xs).getD j "" = (pre' ++ ys).getD j "")) (fun j => leS ((pre ++ xs).getD j "") ((pre' ++ ys).getD j "")) (decide ((pre ++ xs).length ≤ (pre' ++ ys).length)) pre.length (min xs.length ys.length) = pathLe xs ys
  | [], ys, pre, pre', h => by
    rw [List.length_nil, Nat.zero_min, Ob.lexAt_zero]
    refine decide_eq_true ?_
    rw [List.append_nil, List.length_append]
    omega
  | x :: xs, [], pre, pre', h => by
    rw [List.length_nil, Nat.min_zero, Ob.lexAt_zero]
    refine decide_eq_false ?_
    rw [List.append_nil, List.length_append, List.length_cons]
    omega
  | x :: xs, y :: ys, pre, pre', h => by
    rw [List.length_cons, List.length_cons, Nat.add_min_add_right, Ob.lexAt_succ]
    have g1 : (pre ++ x :: xs).getD pre.length "" = x := by simp [List.getD]
    have g2 : (pre' ++ y :: ys).getD pre.length "" = y := by rw [h]; simp [List.getD]
    rw [g1, g2]
    show _ = if x = y then pathLe xs ys else leS x y
    by_cases e : x = y
    · rw [if_pos e, if_pos (decide_eq_true e)]
      have z := lex_path xs ys (pre ++ [x]) (pre' ++ [y]) (by simp [h])
      simp only [List.append_assoc, List.singleton_append, List.length_append, List.length_singleton] at z
      rw [List.length_append, List.length_append]
      exact z
    · rw [if_neg e, if_neg (fun z => e (of_decide_eq_true z))]
def rLeTS (K : PySem.W.Frag) : R2 := fun x y H Q => ∃ (a b : Addr) (ns ms : List Str), x = .ref a ∧ y = .ref b ∧ SqT K H a (ns.map V.str) ∧ SqT K H b (ms.map V.str) ∧ Q (.bl (pathLe ns ms)) H
theorem str_at : ∀ {its : List Value} {ns : List Str}, Vals (ns.map V.str) its → ∀ j (h : j < its.length), ∃ t, its[j] = .str (ns.getD j "") t
  | _, [], r, j, h => by cases r; exact absurd h (Nat.not_lt_zero _)
  | _, n :: ns, r, j, h => by
    cases r with
    | cons r rr =>
      obtain ⟨t, rfl⟩ := r
      cases j with
      | zero => exact ⟨t, rfl⟩
      | succ j => exact str_at (ns := ns) rr j (Nat.lt_of_succ_lt_succ h)
theorem op_leTS {X : Cx} (hu : X.A.units < cLine) : OpR X (compareOp .LtE) (rLeTS X.K) := by
  intro pins s σ H x y v u Q I rx ry h
  obtain ⟨a, b, ns, ms, rfl, rfl, ha, hb, q⟩ := h
  cases rx
  cases ry
  obtain ⟨its, r1, p1, _⟩ := I.tuple ha
  obtain ⟨its2, r2, p2, _⟩ := I.tuple hb
  have e1 : its.toArray.size = ns.length := by rw [List.size_toArray, ← r1.length, List.length_map]
  have e2 : its2.toArray.size = ms.length := by rw [List.size_toArray, ← r2.length, List.length_map]
  have at1 : ∀ j (h1 : j < its.toArray.size), ∃ t, its.toArray[j] = .str (ns.getD j "") t := fun j h1 => by
    obtain ⟨t, e⟩ := str_at r1 j (by simpa using h1)
    exact ⟨t, by simpa using e⟩
  have at2 : ∀ j (h1 : j < its2.toArray.size), ∃ t, its2.toArray[j] = .str (ms.getD j "") t := fun j h1 => by
    obtain ⟨t, e⟩ := str_at r2 j (by simpa using h1)
    exact ⟨t, by simpa using e⟩
  have R := Ob.RcOp.tuples_le (A := X.A) (s := s) (e := fun j => decide (ns.getD j "" = ms.getD j "")) (r := fun j => leS (ns.getD j "") (ms.getD j "")) p1 p2 hu (fun j h1 h2 => by
    obtain ⟨t, et⟩ := at1 j h1
    obtain ⟨t', et'⟩ := at2 j h2
    rw [et, et']
    have z : (ns.getD j "" == ms.getD j "") = decide (ns.getD j "" = ms.getD j "") := by
      by_cases q : ns.getD j "" = ms.getD j ""
      · rw [decide_eq_true q]; exact beq_iff_eq.mpr q
      · rw [decide_eq_false q]; exact beq_eq_false_iff_ne.mpr q
    rw [← z]
    exact SeqAt.EqAt.str_str _ _ _ _) (fun j h1 h2 _ => by
    obtain ⟨t, et⟩ := at1 j h1
    obtain ⟨t', et'⟩ := at2 j h2
    rw [et, et']
    exact fun _ _ _ _ h => PySem.P.le_str h)
  rw [e1, e2] at R
  have e3 := lex_path ns ms [] [] rfl
  simp only [List.nil_append, List.length_nil] at e3
  rw [e3] at R
  have z : wpAny (model X.prog X.w) X.A (compareOp .LtE (.ref a) (.ref b)) (EP X pins σ Q) X.xe s := R X.prog X.w X.xe (EP X pins σ Q) ⟨.bl _, H, I, rfl, q⟩
  exact z
theorem u65 {k : Nat} {A : Around} (r : Room k A) : A.units + 65 < cLine := by have := r.un; omega
end Cor

set_option Elab.async false
set_option linter.all false
set_option maxRecDepth 100000
set_option maxHeartbeats 4000000
/-! Own exception classes over any built-in base, made as values, with or without a keyword. -/
namespace Cor
open PySem PySem.Spec PyProof.Rows

/-! ### the model's level -/
section
variable {M : Model} {A : Around} {E : Value → Shared → Prop} {h : Heap} {g : Array GenState} {d : Drawn} {t : Nat} {os : OsState}
variable {nm q : Str} {C N : Addr} {bs bm bmB : List Value} {hdct : Bool} {sn : List Str} {sub : List Value} {ab : Bool} {col : Option Bool} {dd : Option Addr} {k0 k1 k2 k3 k5 : Option Value} {B newId initId : String}
/-- B.__new__(C, .., k = v) is asked rightly -/
theorem new_chk (F : ExcBaseFacts B newId initId bmB) (hb : bm.contains (.type B) = true) {rest : List Value} {kw : List (Str × Value)} {Q : Unit → Shared → Prop}
    (hC : h.get? C = some (excClassObj nm q C N bs bm hdct sn sub ab col dd k0 k1 k2 k3 k5 newId)) (hq : Q () ⟨h, g, d, t, os⟩) :
    wpAny M A (checkBuiltinCall newId ⟨.ref C :: rest, kw⟩) Q E ⟨h, g, d, t, os⟩ := by
  have inB : (Value.ref C :: bm).contains (.type B) = true := by rw [List.contains_cons, hb, Bool.or_true]
  have notStar := F.noStar
  simp only [checkBuiltinCall, F.newKind, F.newSplit, F.newRow]
  repeat (first
    | refine wpAny_loadPart_at hC ?_
    | (refine wpAny_isSubtype_exc hC ?_; rw [inB])
    | refine wpAny_staticBase_exc hC ?_
    | refine wpAny_madeBy_exc hC ?_
    | simp only [bne_self_eq_false, Bool.false_eq_true, if_false]
    | wp_step)
  exact hq
end

section
variable {prog : Program} {w : World} {A : Around} {E : Value → Shared → Prop} {R : Result → Shared → Prop} {h : Heap} {g : Array GenState} {d : Drawn} {t : Nat} {os : OsState}
variable {nm q : Str} {C N : Addr} {bs bm bmB : List Value} {hdct : Bool} {sn : List Str} {sub : List Value} {ab : Bool} {col : Option Bool} {dd : Option Addr} {k0 k1 k2 k3 k5 : Option Value} {B newId initId : String}
/-- what is asked of the class's line of bases -/
structure Line (B : String) (bm : List Value) : Prop where
  has : bm.contains (.type B) = true
  noA : bm.contains (.type "AttributeError") = false
  noN : bm.contains (.type "NameError") = false
theorem new_run (F : ExcBaseFacts B newId initId bmB) (L : Line B bm) {rest : List Value} {kw : List (Str × Value)}
    (hC : h.get? C = some (excClassObj nm q C N bs bm hdct sn sub ab col dd k0 k1 k2 k3 k5 newId))
    (hq : R (.ok (.ret (.ref (h.objs.size + 1)))) ⟨(h.push (W.kdv_tup rest)).push (HandSPX.excO C h.objs.size), g, d, t, os⟩) (hrest : rest.length ≤ sizeLine) :
    codeAny (model prog w) A (.builtin newId ⟨.ref C :: rest, kw⟩) R ⟨h, g, d, t, os⟩ := by
  have atEnd := F.ends
  have inB : (Value.ref C :: bm).contains (.type B) = true := by rw [List.contains_cons, L.has, Bool.or_true]
  have inA : (Value.ref C :: bm).contains (.type "AttributeError") = false := by rw [List.contains_cons, L.noA]; rfl
  have inN : (Value.ref C :: bm).contains (.type "NameError") = false := by rw [List.contains_cons, L.noN]; rfl
  refine codeAny_builtinAt F.entry ?_
  unfold Builtin.«BaseException.__new__»
  refine PySem.wpAt_bind ?_
  show PySem.wpAt _ _ _ (stack >>= _) _ _ _
  refine PySem.wpAt_bind (PySem.wpAt_stack fun p below => PySem.wpAt_of_wpAny ?_)
  wp_walk
  refine PySem.wpAt_of_wpAny ?_
  rw [F.owner]
  repeat (first
    | with_reducible refine wpAny_madeHere_exc F.canon hC ?_
    | with_reducible refine wpAny_loadPart_at hC ?_
    | (with_reducible refine wpAny_isSubtype_exc hC ?_; first | rw [inB] | rw [inA] | rw [inN])
    | wp_step)
  show R _ _
  rw [Heap.size_push]
  exact hq
theorem call_type (F : ExcBaseFacts B newId initId bmB) (L : Line B bm) {rest : List Value} {kw : List (Str × Value)} {fI : Addr} {Q : Fin → Shared → Prop}
    (hC : h.get? C = some (excClassObj nm q C N bs bm hdct sn sub ab col dd k0 k1 k2 k3 k5 newId))
    (hi : W.Looks (model prog w) h (typeLookup (.ref C) "__init__") (some (.ref fI))) (hb : ∀ self, W.Looks (model prog w) h (bindSpecial (.ref fI) self) (.ref fI, [self])) (hrest : rest.length ≤ sizeLine)
    (hq : codeAny (model prog w) A (.call (.ref fI) ⟨.ref (h.objs.size + 1) :: rest, kw⟩)
      (fun r s' => match r with | .ok (.ret v) => v = .none ∧ Q (.done (.ret (.ref (h.objs.size + 1)))) s' | .ok _ => False | .error e => E e s')
      ⟨(h.push (W.kdv_tup rest)).push (HandSPX.excO C h.objs.size), g, d, t, os⟩) :
    wpAny (model prog w) A (Builtin.«type.__call__» ⟨.ref C :: rest, kw⟩) Q E ⟨h, g, d, t, os⟩ := by
  repeat (first | with_reducible refine wpAny_loadPart_at hC ?_ | with_reducible refine wpAny_madeBy_exc hC ?_ | wp_step)
  refine codeAny_call_builtin_code (Code.quiet_builtin _ F.quiet) (new_chk F L.has hC ?_)
  refine new_run F L hC ?_ hrest
  show wpAny _ _ _ _ _ _
  have kp : ∀ b o, h.get? b = some o → ((h.push (W.kdv_tup rest)).push (HandSPX.excO C h.objs.size)).get? b = some o := fun b o e => Heap.get?_push_of_some _ (Heap.get?_push_of_some _ e)
  have hC2 := kp _ _ hC
  have hob : ((h.push (W.kdv_tup rest)).push (HandSPX.excO C h.objs.size)).get? (h.objs.size + 1) = some (HandSPX.excO C h.objs.size) := by heap_get
  have inC : (Value.ref C :: bm).contains (.ref C) = true := by simp
  have i2 := hi.keeps kp
  have b2 := (hb (.ref (h.objs.size + 1))).keeps kp
  unfold isInstance
  repeat (first | with_reducible refine wpAny_loadPart_at hob ?_ | (with_reducible refine wpAny_isSubtype_exc hC2 ?_; rw [inC]) | wp_step)
  show wpAny _ _ (typeLookup (.ref C) _) _ _ _
  refine i2.at ?_
  refine wpAny_holding (wpAny_bind (b2.at ?_))
  refine wpAny_bind (wpAny_call (codeAny_mono hq fun r s' z => ?_))
  rcases r with e | (v | _ | _ | _) <;> first | exact z | exact z.elim | skip
  obtain ⟨rfl, z⟩ := z
  first
    | exact wpAny_pure (wpAny_pure z)
    | (wp_walk; exact z)
theorem call_cls (F : ExcBaseFacts B newId initId bmB) (L : Line B bm) {rest : List Value} {kw : List (Str × Value)} {fI : Addr}
    (hC : h.get? C = some (excClassObj nm q C N bs bm hdct sn sub ab col dd k0 k1 k2 k3 k5 newId))
    (hi : W.Looks (model prog w) h (typeLookup (.ref C) "__init__") (some (.ref fI))) (hb : ∀ self, W.Looks (model prog w) h (bindSpecial (.ref fI) self) (.ref fI, [self])) (hrest : rest.length ≤ sizeLine)
    (hq : codeAny (model prog w) (A.under (.builtin "type.__call__" ⟨.ref C :: rest, kw⟩)) (.call (.ref fI) ⟨.ref (h.objs.size + 1) :: rest, kw⟩) (W.InitBack (h.objs.size + 1) R)
      ⟨(h.push (W.kdv_tup rest)).push (HandSPX.excO C h.objs.size), g, d, t, os⟩) :
    codeAny (model prog w) A (.call (.ref C) ⟨rest, kw⟩) R ⟨h, g, d, t, os⟩ := by
  have f1 := tc_lookup
  have f2 := tc_bind (.ref C)
  have hTy : (⟨h, g, d, t, os⟩ : Shared).TypeIs (.ref C) "type" := ⟨_, hC, rfl⟩
  refine codeAny_of_tree ?_
  show wpAny _ _ (callAny (.ref C) _) _ _ _
  repeat (any_goals (first | assumption | with_reducible refine wpAny_loadPart_at hC ?_ | wp_step))
  refine ⟨rfl, ?_⟩
  refine codeAny_call_builtin_at (Code.quiet_builtin _ (by decide +kernel)) entry_typeCall (wpAny_check_type_call_sub hC (call_type F L hC hi hb hrest ?_))
  refine codeAny_mono hq fun r s' z => ?_
  rcases r with e | (v | _ | _ | _) <;> exact z
end
end Cor

set_option Elab.async false
set_option linter.all false
set_option maxRecDepth 100000
set_option maxHeartbeats 4000000
namespace Cor
open PySem PySem.Spec PyProof.Rows L2

/-! ### bases -/
structure IniF (Bi initId : String) : Prop where
  plain : plainId initId = true
  entry : entryFor table initId = some Builtin.«BaseException.__init__»
  split : splitId initId = some (Bi, "__init__")
  kind : builtinKind initId = some .slot
  row : Manifest.signature? initId = some ⟨.positional, "*", Bi, .self, [⟨"args", .varPos, false⟩]⟩
  star : (Bi != "*") = true
theorem IniF.of {B n i : String} (F : ExcCallFacts B n i) : IniF B i := ⟨F.init.plain, F.initEntry, F.initSplit, F.initKind, F.initRow, F.noStar⟩
theorem ini_key : IniF "KeyError" "KeyError.__init__" where
  plain := by decide +kernel
  entry := entryFor_alias (id' := "BaseException.__init__") (by rw [fastTable_eq_tree]; kernel_rfl) (by first | rfl | decide +kernel) (by decide +kernel) (by rw [fastTable_eq_tree]; kernel_rfl)
  split := by kernel_rfl
  kind := by kernel_rfl
  row := by kernel_rfl
  star := by decide +kernel

/-- a line of bases without the program's own classes in front -/
def strip : List Value → List Value
  | .ref _ :: r => strip r
  | l => l
theorem strip_cont (Y : String) : ∀ l : List Value, l.contains (.type Y) = (strip l).contains (.type Y)
  | [] => rfl
  | v :: r => by
    cases v with
    | ref c =>
      rw [List.contains_cons]
      show ((Value.type Y == Value.ref c) || r.contains (.type Y)) = (strip r).contains (.type Y)
      rw [← strip_cont Y r]
      rfl
    | _ => rfl
theorem strip_pass (self : Value) (n : Str) : ∀ l : List Value, refuseLoop self n (strip l) = pure () → refuseLoop self n l = pure ()
  | [], h => h
  | v :: r, h => by
    cases v with
    | ref c =>
      rw [refuseLoop_ref]
      exact strip_pass self n r h
    | _ => exact h
/-- what a tail of built-in bases must say -/
structure Bas (Bn newId Bi initId : String) (tl : List Value) : Prop where
  nw : ∃ i bmB, ExcBaseFacts Bn newId i bmB
  ini : IniF Bi initId
  line : Line Bn tl
  hasI : tl.contains (.type Bi) = true
  ob : tl.contains (.type "object") = true
  pass : ∀ self, refuseLoop self "__setattr__" tl = pure ()
theorem bas_value : Bas "ValueError" "ValueError.__new__" "ValueError" "ValueError.__init__" [.type "ValueError", .type "Exception", .type "BaseException", .type "object"] :=
  ⟨⟨_, _, F.excBase_ValueError⟩, .of F.excBase_ValueError.toExcCallFacts, ⟨by decide +kernel, by decide +kernel, by decide +kernel⟩, by decide +kernel, by decide +kernel, F.store_ValueError.passes⟩
theorem bas_lookup : Bas "LookupError" "LookupError.__new__" "LookupError" "LookupError.__init__" [.type "LookupError", .type "Exception", .type "BaseException", .type "object"] :=
  ⟨⟨_, _, F.excBase_LookupError⟩, .of F.excBase_LookupError.toExcCallFacts, ⟨by decide +kernel, by decide +kernel, by decide +kernel⟩, by decide +kernel, by decide +kernel, F.store_LookupError.passes⟩
theorem bas_index : Bas "IndexError" "IndexError.__new__" "IndexError" "IndexError.__init__" [.type "IndexError", .type "LookupError", .type "Exception", .type "BaseException", .type "object"] :=
  ⟨⟨_, _, F.excBase_IndexError⟩, .of F.excBase_IndexError.toExcCallFacts, ⟨by decide +kernel, by decide +kernel, by decide +kernel⟩, by decide +kernel, by decide +kernel, F.store_IndexError.passes⟩
theorem bas_key : Bas "LookupError" "LookupError.__new__" "KeyError" "KeyError.__init__" [.type "KeyError", .type "LookupError", .type "Exception", .type "BaseException", .type "object"] :=
  ⟨⟨_, _, F.excBase_LookupError⟩, ini_key, ⟨by decide +kernel, by decide +kernel, by decide +kernel⟩, by decide +kernel, by decide +kernel, fun self => by kernel_rfl⟩
theorem bas_arith : Bas "ArithmeticError" "ArithmeticError.__new__" "ArithmeticError" "ArithmeticError.__init__" [.type "ArithmeticError", .type "Exception", .type "BaseException", .type "object"] :=
  ⟨⟨_, _, F.excBase_ArithmeticError⟩, .of F.excBase_ArithmeticError.toExcCallFacts, ⟨by decide +kernel, by decide +kernel, by decide +kernel⟩, by decide +kernel, by decide +kernel, F.store_ArithmeticError.passes⟩

/-- C is an exception class of the program -/
structure Exn (K : PySem.W.Frag) (C : Addr) (newId initId : String) : Prop where
  cls : ∃ Bn Bi nm q N bs bm sn sub ab col dd k0 k1 k2 k3 k5, Bas Bn newId Bi initId (strip bm) ∧ K.lookup C = some (excClassObj nm q C N bs bm true sn sub ab col dd k0 k1 k2 k3 k5 newId)
  sa : PySem.W.findIn K (.ref C) "__setattr__" = some (some (.builtin "object.__setattr__"))
  exC : PySem.W.subIn K (.ref C) (.type "BaseException") = some true
  tyC : PySem.W.typeIn K (.ref C) = some (.type "type")
  kC : PySem.W.keepIn K (.ref C) = true
  ga : PySem.W.findIn K (.ref C) "__getattribute__" = some (some (.builtin "BaseException.__getattribute__"))
  gg : PySem.W.findIn K (.ref C) "__getattr__" = some none
  hd : PySem.W.hasDictIn K C = true
  ca : PySem.W.findIn K (.ref C) "__class__" = some (some (.builtin "object.__class__"))
  mr : PySem.W.mroIn K C (.type "object") = some true
  cn : PySem.W.specialIn K (.builtin "object.__class__") "__get__" = some (some (.builtin "getset_descriptor.__get__"))
  ct : PySem.W.takesIn K (.builtin "object.__class__") = some true
/-- the written part's share of it, as one question -/
def exnB (K : PySem.W.Frag) (C : Addr) : Bool :=
  (PySem.W.findIn K (.ref C) "__setattr__" == some (some (.builtin "object.__setattr__"))) && ((PySem.W.subIn K (.ref C) (.type "BaseException") == some true) && ((PySem.W.typeIn K (.ref C) == some (.type "type")) && (PySem.W.keepIn K (.ref C) &&
  ((PySem.W.findIn K (.ref C) "__getattribute__" == some (some (.builtin "BaseException.__getattribute__"))) && ((PySem.W.findIn K (.ref C) "__getattr__" == some none) && (PySem.W.hasDictIn K C &&
  ((PySem.W.findIn K (.ref C) "__class__" == some (some (.builtin "object.__class__"))) && ((PySem.W.mroIn K C (.type "object") == some true) &&
  ((PySem.W.specialIn K (.builtin "object.__class__") "__get__" == some (some (.builtin "getset_descriptor.__get__"))) && (PySem.W.takesIn K (.builtin "object.__class__") == some true))))))))))
theorem exn_mk {K : PySem.W.Frag} {C : Addr} {newId initId : String} {Bn Bi : String} {nm q : Str} {N : Addr} {bs bm : List Value} {sn : List Str} {sub : List Value} {ab : Bool} {col : Option Bool} {dd : Option Addr} {k0 k1 k2 k3 k5 : Option Value} {tl : List Value}
    (b : Bas Bn newId Bi initId tl) (l : K.lookup C = some (excClassObj nm q C N bs bm true sn sub ab col dd k0 k1 k2 k3 k5 newId)) (s : strip bm = tl) (h : exnB K C = true) : Exn K C newId initId := by
  unfold exnB at h
  simp only [Bool.and_eq_true, beq_iff_eq] at h
  obtain ⟨h1, h2, h3, h4, h5, h6, h7, h8, h9, h10, h11⟩ := h
  subst s
  exact ⟨⟨_, _, _, _, _, _, _, _, _, _, _, _, _, _, _, _, _, b, l⟩, h1, h2, h3, h4, h5, h6, h7, h8, h9, h10, h11⟩

/-! ### the first field of an exception -/
section
variable {prog : Program} {w : World} {A : Around} {E : Value → Shared → Prop} {R : Result → Shared → Prop} {hp : Heap} {g : Array GenState} {d : Drawn} {t : Nat} {os : OsState}
theorem first_field {K : W.Frag} {name : Str} {tk : Tok} {v : Value} {x C : Addr} {fv : Array Value} {cd : ClassData}
    (X : K.In hp) (hx : hp.get? x = some { cls := .ref C, data := .fields fv }) (hcd : W.clsIn K C = some cd) (hob : cd.mro.contains (.type "object") = true) (hps : ∀ self, refuseLoop self "__setattr__" cd.mro = pure ())
    (hh : cd.hasDict = true) (ha : W.findIn K (.ref C) name = some none)
    (hq : ∀ h' tk' dx, (∀ b o, b ≠ x → hp.get? b = some o → h'.get? b = some o) → hp.objs.size ≤ dx → dx ≠ x → h'.get? x = some { cls := .ref C, dict := some dx, data := .fields fv } →
      h'.Ns1 dx (fun y => if y = name then some v else none) → R (.ok (.ret .none)) ⟨h', g, d, tk', os⟩) :
    codeAny (model prog w) A (.call (.builtin "object.__setattr__") ⟨[.ref x, .str name tk, v], []⟩) R ⟨hp, g, d, t, os⟩ := by
  have I : W.InstAt hp x { cls := .ref C, data := .fields fv } C none := ⟨hx, rfl, rfl, trivial⟩
  have SF := F.store_object
  have ne : cd.mro.isEmpty = false := by
    cases e : cd.mro with
    | nil => rw [e] at hob; cases hob
    | cons _ _ => rfl
  have xs : x ≠ hp.objs.size := Nat.ne_of_lt (Heap.lt_size hx)
  have isO : W.Looks (model prog w) hp (isInstance (.ref x) (.type "object")) true := I.type.andThen (W.looks_mroIn X (by unfold W.mroIn; rw [hcd, Option.bind_some, if_neg (by rw [ne]; decide), hob]))
  refine codeAny_call_builtin SF.slot.plain SF.entry (@W.check_slot (model prog w) _ _ ⟨hp, g, d, t, os⟩ "object.__setattr__" "object" "__setattr__" (.ref x) [.str name tk, v] [] _ SF.kind SF.split isO (SF.args (.ref x) (.str name tk) v) ?_)
  have lm : W.Looks (model prog w) hp (mroOf (.ref C)) cd.mro := (W.looks_clsIn X hcd).andThen .now
  have l0 : W.Looks (model prog w) hp (Builtin.ObjectAttr.storeTaker? none) none := .now
  have lc : W.Looks (model prog w) hp (classData C) cd := W.looks_clsIn X hcd
  rw [W.osa_eq, refuse_eq]
  refine wpAny_bind (wpAny_bind (I.type.at (wpAny_bind (lm.at ?_))))
  rw [hps]
  refine wpAny_pure (wpAny_bind (I.type.at (wpAny_bind ((W.looks_findIn X ha).at (wpAny_bind (l0.at ?_))))))
  show wpAny _ _ (Builtin.ObjectAttr.storeInOwnDict (.ref x) (.ref C) (.str name tk) name v false) _ _ _
  obtain ⟨nm, bs, mro, ns, qn, hd, sn, sb, ab, col, del⟩ := cd
  dsimp only at hh
  subst hh
  unfold Builtin.ObjectAttr.storeInOwnDict Builtin.ObjectAttr.ownDictForStores
  repeat (first | with_reducible refine HandSPX.store_in_new ?_ ?_ | with_reducible refine wpAny_loadPart_at hx ?_ | with_reducible refine lc.at ?_ | wp_step)
  · exact ⟨_, #[], _, (Heap.get?_update_ne _ _ _ _ xs.symm).trans (Heap.get?_push_at rfl rfl), rfl, fun e he => absurd he (by simp), fun _ => rfl⟩
  · intro h' tk' hn' hs
    have hx2 : (hp.push { cls := .type "dict", data := .dict #[] }).get? x = some { cls := .ref C, data := .fields fv } := Heap.get?_push_of_some _ hx
    refine hq h' tk' hp.objs.size (fun b o hb ho => ?_) (Nat.le_refl _) xs.symm ?_ hn'
    · exact (hs.2 b (Nat.ne_of_lt (Heap.lt_size ho))).trans ((Heap.get?_update_ne _ _ _ _ hb).trans (Heap.get?_push_of_some _ ho))
    · exact (hs.2 x xs).trans (Heap.get?_update_self _ hx2 rfl)
variable {nm q : Str} {C N : Addr} {bs bm : List Value} {hdct : Bool} {sn : List Str} {sub : List Value} {ab : Bool} {col : Option Bool} {dd : Option Addr} {k0 k1 k2 k3 k5 : Option Value} {newId : String}
theorem init_run {Bi initId : String} (F : IniF Bi initId) (hI : bm.contains (.type Bi) = true) {e t0 : Addr} {rest : List Value}
    (hC : hp.get? C = some (excClassObj nm q C N bs bm hdct sn sub ab col dd k0 k1 k2 k3 k5 newId)) (he : hp.get? e = some (HandSPX.excO C t0)) (hrest : rest.length ≤ sizeLine)
    (hq : ∀ h' t1, (∀ b o, b ≠ e → hp.get? b = some o → h'.get? b = some o) → h'.get? e = some (HandSPX.excO C t1) → R (.ok (.ret .none)) ⟨h', g, d, t, os⟩) :
    codeAny (model prog w) A (.call (.builtin initId) ⟨.ref e :: rest, []⟩) R ⟨hp, g, d, t, os⟩ := by
  refine codeAny_call_builtin F.plain F.entry ?_
  have inB : (Value.ref C :: bm).contains (.type Bi) = true := by rw [List.contains_cons, hI, Bool.or_true]
  have short := F.star
  simp only [checkBuiltinCall, F.kind, F.split, F.row]
  repeat (first | (with_reducible refine wpAny_loadPart_at he ?_) | with_reducible refine wpAny_loadPart_at hC ?_ | (with_reducible refine wpAny_isSubtype_exc hC ?_; rw [inB]) | wp_step)
  refine wpAny_onRaise ?_
  rw [show ∀ (a b : String) (n : Nat), Bind.check ⟨.positional, "*", Bi, .self, [⟨"args", .varPos, false⟩]⟩ a b n (List.map (fun x => x.fst) ({ pos := Value.ref e :: rest } : Args).kw) = pure () from
    fun a b n => check_star_args _ _ _ _ _ _]
  refine wpAny_pure ?_
  wp_walk
  refine hq _ hp.objs.size (fun b o hb ho => ?_) ?_
  · rw [Heap.get?_update_other _ _ (Ne.symm hb)]
    exact Heap.get?_push_of_some _ ho
  · rw [Heap.get?_update_self _ (Heap.get?_push_of_some _ he) rfl]
    rfl
end
end Cor

set_option Elab.async false
set_option linter.all false
set_option maxRecDepth 100000
set_option maxHeartbeats 400000
namespace Cor
open PySem PySem.Spec PyProof.Rows L2

section
variable {X : Cx} {pins : List (Addr × Obj)} {σ : L2.St} {H : Hp} {s : Shared} {a C : Addr} {f : Str} {y : V} {u : Value} {E : Value → Shared → Prop} {A : Around} {newId initId : String}
theorem cls_in (T : Exn X.K C newId initId) : ∃ Bn Bi cd bm, Bas Bn newId Bi initId (strip bm) ∧ PySem.W.clsIn X.K C = some cd ∧ cd.mro = .ref C :: bm ∧ cd.hasDict = true := by
  obtain ⟨Bn, Bi, nm, q, N, bs, bm, sn, sub, ab, col, dd, k0, k1, k2, k3, k5, b, l⟩ := T.cls
  refine ⟨Bn, Bi, { name := nm, bases := bs, mro := .ref C :: bm, ns := N, qualname := q, hasDict := true, slotNames := sn, subclasses := sub, abstract := ab, collection := col, hasDel := false }, bm, b, ?_, rfl, rfl⟩
  unfold PySem.W.clsIn
  rw [l] <;> rfl
/-- self.f = y on an exception that has no dict yet -/
theorem fld_new {Q : Unit → Shared → Prop} (T : Exn X.K C newId initId) (I : Inv X pins σ H s) (ea : H a = some (exo a C none)) (hno : PySem.W.findIn X.K (.ref C) f = some none) (ry : RelV y u)
    (h : ∀ dx s', H dx = none → dx ≠ a → Inv X pins σ (upd (upd H dx (exd dx [(f, y)])) a (exo a C (some dx))) s' → Q () s') : wpAny (model X.prog X.w) A (setAttr (.ref a) f u) Q E s := by
  obtain ⟨Bn, Bi, cd, bm, bas, hcl, hmro, hdict⟩ := cls_in T
  obtain ⟨t1, ho⟩ := exo_at I.hok ea
  obtain ⟨hp, g, d, t, os⟩ := s
  refine PySem.W.set_plain I.kIn (ox := { cls := .ref C, dict := none, data := .fields #[.ref t1, .none, .none, .none, .bool false, .none] }) (od := none) ⟨ho, rfl, rfl, trivial⟩ T.sa ?_
  refine first_field I.kIn ho hcl (by rw [hmro, List.contains_cons, strip_cont, bas.ob, Bool.or_true]) (fun self => by rw [hmro, refuseLoop_ref]; exact strip_pass _ _ _ (bas.pass self)) hdict hno (fun h' tk' dx k dn dne hx hn => ?_)
  have free : H dx = none := I.hok.fresh dn
  have nd : ∀ {b : Addr} {o : Obj}, hp.get? b = some o → b ≠ dx := fun {b o} z => Nat.ne_of_lt (Nat.lt_of_lt_of_le (Heap.lt_size z) dn)
  have na : ∀ {b : Addr}, H b = none → b ≠ a := fun {b} n z => by
    rw [z, ea] at n
    cases n
  have U : Un X.fs [] H (upd (upd H dx (exd dx [(f, y)])) a (exo a C (some dx))) hp h' := {
    keep := fun b o z n _ _ => k b o (na n) z
    slot := fun b o z n _ _ => ⟨o.slots, k b o (na n) z⟩
    free := fun b o z n _ => by rw [upd_ne (na n), upd_ne (nd z)]; exact n
    there := fun b o z _ => by
      by_cases hb : b = a
      · exact ⟨_, by rw [hb]; exact hx⟩
      · exact ⟨o, k b o hb z⟩
    tups := fun b xs z => by rw [upd_ne (at_ne ea z exo_tup), upd_ne (ne_of_none z free)]; exact z
    frzs := fun b o v z => by rw [upd_ne (at_ne ea z exo_frz), upd_ne (ne_of_none z free)]; exact z
    tbls := fun b ps z => ⟨#[], by rw [upd_ne (at_ne ea z exo_tbl), upd_ne (ne_of_none z free), z]; simp⟩ }
  refine h dx _ free dne (I.un (t' := tk') U fun b o z => ?_)
  by_cases hb : b = a
  · subst hb
    rw [upd_same] at z
    cases z
    exact exo_ok hx
  · rw [upd_ne hb] at z
    by_cases hd : b = dx
    · subst hd
      rw [upd_same] at z
      cases z
      exact exd_ok hn (relO_put (fs := []) ry fun g => True.intro)
    · rw [upd_ne hd] at z
      refine (I.hok b o z).stay (fun c v hc z' => k c v ?_ z') (fun c hc => ?_) (fun c xs hc => ?_)
      · rcases hc with hc | hc
        · rw [hc]
          exact hb
        · exact at_ne ea hc exo_own
      · rw [upd_ne (at_ne ea hc exo_own), upd_ne (ne_of_none hc free)]
        exact hc
      · rw [upd_ne (at_ne ea hc exo_tup), upd_ne (ne_of_none hc free)]
        exact hc
/-- B.__init__(self, ..) -/
theorem ini_ok {us : List Value} {Q : Value → Shared → Prop} (T : Exn X.K C newId initId) (I : Inv X pins σ H s) (ea : H a = some (exo a C none)) (hl : us.length ≤ sizeLine) (h : ∀ s', Inv X pins σ H s' → Q .none s') :
    wpAny (model X.prog X.w) A (call (.builtin initId) (.ref a :: us)) Q E s := by
  obtain ⟨Bn, Bi, nm, q, N, bs, bm, sn, sub, ab, col, dd, k0, k1, k2, k3, k5, b, l⟩ := T.cls
  obtain ⟨t1, ho⟩ := exo_at I.hok ea
  obtain ⟨hp, g, d, t, os⟩ := s
  refine wpAny_call (init_run b.ini (by rw [strip_cont]; exact b.hasI) (I.kIn _ _ l) ho hl fun h' t2 k hx => ?_)
  have J := I.write (t' := t) (x := a) (e := a) (o := exo a C none) (by rw [ea]; exact True.intro) (.inl rfl) k ⟨_, hx⟩ (exo_ok hx)
  have same : upd H a (exo a C none) = H := by
    funext b
    by_cases hb : b = a
    · rw [hb, upd_same, ea]
    · rw [upd_ne hb]
  rw [same] at J
  exact h _ J
end

/-! ### readings -/
def tIni (K : PySem.W.Frag) (initId : String) (ta : TA) : TE := fun σ H Q => ta σ H fun vs H1 => ∃ (a C : Addr) (newId : String) (ws : List V), vs = .ref a :: ws ∧ ws.length ≤ 1000 ∧ Exn K C newId initId ∧ H1 a = some (exo a C none) ∧ Q .non H1
/-- self.f = e, the first field -/
def tFld1 (K : PySem.W.Frag) (f : Str) (to te : TE) : TS := fun D σ H => te σ H fun y H1 => to σ H1 fun x H2 => ∃ (a C : Addr) (newId initId : String), x = .ref a ∧ Exn K C newId initId ∧ PySem.W.findIn K (.ref C) f = some none ∧
  H2 a = some (exo a C none) ∧ ∀ dx, H2 dx = none → dx ≠ a → D.nx σ (upd (upd H2 dx (exd dx [(f, y)])) a (exo a C (some dx)))
/-- C(e, ..) as a value -/
def tExn (C : Addr) (sp : Sp) (ta : TA) : TE := fun σ H Q => ta σ H fun vs H1 => vs.length ≤ 1000 ∧ ∀ a, H1 a = none → sp (.ref a :: vs) (upd H1 a (exo a C none)) (fun v H2 => v = .non ∧ Q (.ref a) H2) (fun _ _ _ => False)
section
variable {X : Cx} {o e : Expr} {es : List Expr} {to te : TE} {ta tk : TA} {f x : Str} {p p' p1 p2 pos : Pos} {newId initId : String}
theorem ini_end {pins : List (Addr × Obj)} {σ : L2.St} {Q : VK} {H : Hp} {us : List Value} {vs : List V} {s : Shared} (I : Inv X pins σ H s) (r : Vals vs us)
    (h : ∃ (a C : Addr) (newId : String) (ws : List V), vs = .ref a :: ws ∧ ws.length ≤ 1000 ∧ Exn X.K C newId initId ∧ H a = some (exo a C none) ∧ Q .non H) :
    wpAny (model X.prog X.w) X.A (call (.builtin initId) us) (EP X pins σ Q) X.xe s := by
  obtain ⟨a, C, newId, ws, ev, hl, T, ea, q⟩ := h
  subst ev
  cases r with
  | @cons _ u0 _ ur ra rr =>
    obtain rfl : u0 = Value.ref a := ra
    have hlen : ur.length ≤ sizeLine := by
      rw [← Paired.length rr, sizeLine_eq]
      omega
    exact ini_ok T I ea hlen fun s' J => ⟨.non, H, J, rfl, q⟩
/-- S.__init__(self, ..), S an own class -/
theorem pe_iniO {pl : Sem Bool} {S : Addr} {mc : Value} (hg : Gl X x) (hm : X.mg x = some (.ref S)) (rd : ClX.CRead X.K S mc) (vS : PySem.W.findCls X.K (.ref S) mc "__init__" = some (.val (.builtin initId))) (ha : PA X (e :: es) ta)
    (hdb : (x == ("__debug__" : Str)) = false := by decide) (hh : PySem.W.handedIn (.builtin initId) = true := by decide +kernel)
    (hc : eval (.Call (.Attribute (.Name x p1) "__init__" p2) (e :: es) [] pos) X.env = (do
      let ov ← eval (.Name x p1) X.env
      standAt p2.atName
      let (f, first) ← holding [ov] (getMethod ov "__init__" pl)
      callWith pos f first (backTo pos (starEach (e :: es) X.env)) (backToKw pos (keywordEach [] X.env))) := by rfl)
    (he : starEach (e :: es) X.env = (false, eval e X.env) :: starEach es X.env := by rfl) (hpl : (backTo pos (starEach es X.env)).any (·.1) = false := by rfl) :
    PE X (.Call (.Attribute (.Name x p1) "__init__" p2) (e :: es) [] pos) (tIni X.K initId ta) := by
  refine ⟨fun pins s σ H Q I h => ?_⟩
  refine PySem.W.methodCall_KW (ld_glob I hg hm ?_ hdb) hc
  refine PySem.W.method_cls I.kIn rd.ga (PySem.W.cls_value I.kIn rd.rd vS hh ?_)
  refine PyProof.Rows.callWith_method1 (thn (ha.run pos pins _ σ H _ (I.tok _) h) fun us s1 ⟨vs, H1, I1, r1, q⟩ => ?_) he hpl
  exact ini_end I1 r1 q
/-- T.__init__(self, ..), T a built-in class -/
theorem pe_iniT {pl : Sem Bool} {T : String} (hg : Gl X x) (hm : X.mg x = none) (hv : bootBuiltins x = some (.type T)) (ty : typeOf (.type T) = pure (.type "type")) (st : Manifest.isStub T = false)
    (vT : PySem.W.findCls X.K (.type T) (.type "type") "__init__" = some (.val (.builtin initId))) (ha : PA X (e :: es) ta) (hn : x ≠ "__name__" := by decide) (hdb : (x == ("__debug__" : Str)) = false := by decide) (hh : PySem.W.handedIn (.builtin initId) = true := by decide +kernel)
    (hc : eval (.Call (.Attribute (.Name x p1) "__init__" p2) (e :: es) [] pos) X.env = (do
      let ov ← eval (.Name x p1) X.env
      standAt p2.atName
      let (f, first) ← holding [ov] (getMethod ov "__init__" pl)
      callWith pos f first (backTo pos (starEach (e :: es) X.env)) (backToKw pos (keywordEach [] X.env))) := by rfl)
    (he : starEach (e :: es) X.env = (false, eval e X.env) :: starEach es X.env := by rfl) (hpl : (backTo pos (starEach es X.env)).any (·.1) = false := by rfl) :
    PE X (.Call (.Attribute (.Name x p1) "__init__" p2) (e :: es) [] pos) (tIni X.K initId ta) := by
  refine ⟨fun pins s σ H Q I h => ?_⟩
  refine PySem.W.methodCall_KW (ld_blt I hg hm hv ?_ hn hdb) hc
  obtain ⟨m, fr⟩ := I.fr
  refine PySem.W.method_type fr I.ok.mod.kin ty st vT hh ?_
  refine PyProof.Rows.callWith_method1 (thn (ha.run pos pins _ σ H _ (I.tok _) h) fun us s1 ⟨vs, H1, I1, r1, q⟩ => ?_) he hpl
  exact ini_end I1 r1 q
theorem ps_fld1 (ho : PE X o to) (he : PE X e te) (hs : swapsWith e (some (.Attribute o f p')) pos.line X.env = pure false := by rfl) : PS X (.Assign [.Attribute o f p'] e pos) (tFld1 X.K f to te) := by
  refine ⟨fun pins s σ H D I h => ?_⟩
  refine plainObj_wpAny_Assign_Attribute (thn (he.run pins s σ H _ I h) fun v s1 ⟨y, H1, I1, r1, q1⟩ => thn (ho.run pins s1 σ H1 _ I1 q1) fun u s2 ⟨x, H2, I2, r2, a, C, n, i, ex, T, hno, ea, q⟩ => ?_) hs
  subst ex
  obtain rfl : u = Value.ref a := r2
  exact fld_new T I2 ea hno r1 fun dx s' n ne J => ⟨σ, _, J, q dx n ne⟩

/-- the class is called -/
theorem run_exn {CX : CXT} {C fI : Addr} {k : Nat} {fd : FuncData} {ps : List Str} {sp : Sp} {pins : List (Addr × Obj)} {σ : L2.St} {Q : VK} {H1 : Hp} {us : List Value} {kw : List (Str × Value)} {vs : List V} {ws : List Value} {s1 : Shared}
    (T : Exn X.K C newId initId) (iC : PySem.W.findIn X.K (.ref C) "__init__" = some (some (.ref fI))) (tI : PySem.W.typeIn X.K (.ref fI) = some (.type "function"))
    (F1 : FnOk X.prog X.w X.K X.mg X.base CX k fI fd ps sp) (hr : Room (k + 1) X.A) (hx : Passes CX X (fun _ _ _ => False)) (I1 : Inv X pins σ H1 s1) (hus : us.length ≤ sizeLine) (r1 : Vals vs ws)
    (hb : ∀ (s : Shared) (a : Addr), X.K.In s.heap → BindsTo s fd ⟨.ref a :: us, kw⟩ (ps.zip (.ref a :: ws)))
    (h : ∀ a, H1 a = none → sp (.ref a :: vs) (upd H1 a (exo a C none)) (fun v H2 => v = .non ∧ Q (.ref a) H2) (fun _ _ _ => False)) :
    wpAny (model X.prog X.w) X.A (call (.ref C) us kw) (EP X pins σ Q) X.xe s1 := by
  obtain ⟨Bn, Bi, nm, q, N, bs, bm, sn, sub, ab, col, dd, k0, k1, k2, k3, k5, b, l⟩ := T.cls
  obtain ⟨i0, bmB, NF⟩ := b.nw
  have L : Line Bn bm := ⟨by rw [strip_cont]; exact b.line.has, by rw [strip_cont]; exact b.line.noA, by rw [strip_cont]; exact b.line.noN⟩
  obtain ⟨hp, g, dr, tk, os⟩ := s1
  have hsz : hp.objs.size ≤ hp.objs.size + 1 := Nat.le_succ _
  have hn : H1 (hp.objs.size + 1) = none := I1.hok.fresh hsz
  have hq := h (hp.objs.size + 1) hn
  have kk : ∀ b o, hp.get? b = some o → ((hp.push (PySem.W.kdv_tup us)).push (HandSPX.excO C hp.objs.size)).get? b = some o := fun b o e => Heap.get?_push_of_some _ (Heap.get?_push_of_some _ e)
  have hget : ((hp.push (PySem.W.kdv_tup us)).push (HandSPX.excO C hp.objs.size)).get? (hp.objs.size + 1) = some (HandSPX.excO C hp.objs.size) := by heap_get
  have I2 : Inv X pins σ (upd H1 (hp.objs.size + 1) (exo (hp.objs.size + 1) C none)) ⟨(hp.push (PySem.W.kdv_tup us)).push (HandSPX.excO C hp.objs.size), g, dr, tk, os⟩ :=
    I1.laid (t' := tk) (a := hp.objs.size + 1) (o := exo (hp.objs.size + 1) C none) (h' := (hp.push (PySem.W.kdv_tup us)).push (HandSPX.excO C hp.objs.size)) kk hsz (exo_ok hget)
  have r2 : Vals (V.ref (hp.objs.size + 1) :: vs) (Value.ref (hp.objs.size + 1) :: ws) := .cons rfl r1
  refine wpAny_call (call_cls NF L (I1.kIn _ _ l) (PySem.W.looks_findIn I1.kIn iC) (fun self => PySem.W.bind_fn I1.kIn self tI) hus ?_)
  refine codeAny_mono (F1.run _ X.stack _ _ ⟨Value.ref (hp.objs.size + 1) :: us, kw⟩ (Value.ref (hp.objs.size + 1) :: ws) _ _ (fun _ _ _ => False) (hr.make C us kw) (I2.env0.make C us kw) (hb _ _ I2.kIn) r2 hq) fun r s' hq' => ?_
  cases r with
  | error er => exact hx pins σ _ _ er s' I2 hq'
  | ok fl =>
    cases fl with
    | ret u =>
      obtain ⟨v, H2, J, rv, ev, q2⟩ := I2.after hq'
      subst ev
      have e0 : u = Value.none := rv
      exact ⟨e0, V.ref (hp.objs.size + 1), H2, J, rfl, q2⟩
    | next => exact False.elim hq'
    | brk => exact False.elim hq'
    | cont => exact False.elim hq'
/-- C(e, ..) -/
theorem pe_exn {CX : CXT} {C fI : Addr} {k : Nat} {fd : FuncData} {ps : List Str} {sp : Sp} (T : Exn X.K C newId initId) (iC : PySem.W.findIn X.K (.ref C) "__init__" = some (some (.ref fI))) (tI : PySem.W.typeIn X.K (.ref fI) = some (.type "function"))
    (F1 : FnOk X.prog X.w X.K X.mg X.base CX k fI fd ps sp) (hr : Room (k + 1) X.A) (hb : Binds X.K fd ps []) (hx : Passes CX X (fun _ _ _ => False)) (hg : Gl X x) (hm : X.mg x = some (.ref C)) (ha : PA X (e :: es) ta)
    (hdb : (x == ("__debug__" : Str)) = false := by decide) (he : starEach (e :: es) X.env = (false, eval e X.env) :: starEach es X.env := by rfl) (hpl : (backTo pos (starEach es X.env)).any (·.1) = false := by rfl) :
    PE X (.Call (.Name x p) (e :: es) [] pos) (tExn C sp ta) := by
  refine ⟨fun pins s σ H Q I h => ?_⟩
  refine wpAny_Call_Name_kw (ld_glob I hg hm ?_ hdb)
  refine PySem.W.callWith_K (h₀ := X.base) I.ok.mod.kin T.kC (thn (ha.run pos pins s σ H _ I h) fun us s1 ⟨vs, H1, I1, r1, hz, q1⟩ => ⟨I1.kIn, ?_⟩) he hpl
  have hus : us.length ≤ sizeLine := by
    rw [← Paired.length r1, sizeLine_eq]
    omega
  have hlen : vs.length + 1 = ps.length := by
    have z := F1.len _ _ _ _ (q1 s1.heap.objs.size (I1.hok.fresh (Nat.le_refl _)))
    exact z
  refine run_exn (us := us) (ws := us) (kw := []) T iC tI F1 hr hx I1 hus r1 (fun s a hs => ?_) q1
  have z := hb s (.ref a :: us) hs (by rw [List.append_nil, List.length_cons, ← Paired.length r1]; exact hlen)
  rw [List.append_nil] at z
  exact z
/-- C(k = e) -/
theorem pe_exnK {CX : CXT} {C fI : Addr} {k : Nat} {fd : FuncData} {ps : List Str} {ky : Str} {kpos : Pos} {sp : Sp} (T : Exn X.K C newId initId) (iC : PySem.W.findIn X.K (.ref C) "__init__" = some (some (.ref fI))) (tI : PySem.W.typeIn X.K (.ref fI) = some (.type "function"))
    (F1 : FnOk X.prog X.w X.K X.mg X.base CX k fI fd ps sp) (hr : Room (k + 1) X.A) (hb : ∀ (s : Shared) (a : Addr) (u : Value), X.K.In s.heap → BindsTo s fd ⟨[.ref a], [(ky, u)]⟩ (ps.zip [.ref a, u])) (hx : Passes CX X (fun _ _ _ => False)) (hg : Gl X x) (hm : X.mg x = some (.ref C))
    (ha : PK X [⟨some ky, e, kpos⟩] ta)
    (hdb : (x == ("__debug__" : Str)) = false := by decide)
    (hall : (backToKw pos (keywordEach [⟨some ky, e, kpos⟩] X.env)).all (·.1.isSome) = true := by rfl) (hks : (backToKw pos (keywordEach [⟨some ky, e, kpos⟩] X.env)).filterMap (·.1) = [ky] := by rfl)
    (hpl : ((backTo pos (starEach [] X.env)).any (·.1) || (backToKw pos (keywordEach [⟨some ky, e, kpos⟩] X.env)).any (·.1.isNone)) = false := by rfl) :
    PE X (.Call (.Name x p) [] [⟨some ky, e, kpos⟩] pos) (fun σ H Q => ta σ H fun vs H1 => vs.length = 1 ∧ tExn C sp (fun _ H Q => Q vs H) σ H1 Q) := by
  refine ⟨fun pins s σ H Q I h => ?_⟩
  refine wpAny_Call_Name_kw (ld_glob I hg hm ?_ hdb)
  refine PySem.W.callWith_KW0 (h₀ := X.base) I.ok.mod.kin T.kC hall ?_ hpl
  refine thn (ha.run pos pins s σ H _ I h) fun ws s2 ⟨zs, H2, I2, rz, l1, hz, q2⟩ => ⟨I2.kIn, ?_⟩
  rw [hks]
  have l2 : ws.length = 1 := rz.length.symm.trans l1
  obtain ⟨u, rfl⟩ : ∃ u, ws = [u] := List.length_eq_one_iff.mp l2
  show wpAny _ _ (call (.ref C) [] [(ky, u)]) _ _ _
  exact run_exn (us := []) (ws := [u]) (kw := [(ky, u)]) T iC tI F1 hr hx I2 (Nat.zero_le _) rz (fun s a hs => hb s a u hs) q2

/-! ### asked -/
/-- isinstance(e, c) of an exception that is a value -/
def rIsX (K : PySem.W.Frag) : List V → Hp → VK → Prop := fun xs H Q => ∃ (a C dx : Addr) (fs : List (Str × V)) (n i : String) (c : V) (cv : Value) (b : Bool), xs = [.ref a, c] ∧ H a = some (exo a C (some dx)) ∧ H dx = some (exd dx fs) ∧ Exn K C n i ∧ (∀ u, RelV c u → u = cv) ∧
  PySem.W.kitOne K (.ref C) cv = some b ∧ Q (.bl b) H
theorem inst_at {pins : List (Addr × Obj)} {σ : L2.St} {H : Hp} {s : Shared} {a C dx : Addr} {fs : List (Str × V)} (I : Inv X pins σ H s) (ea : H a = some (exo a C (some dx))) (ed : H dx = some (exd dx fs)) :
    ∃ (ox od : Obj), PySem.W.InstAt s.heap a ox C (some od) ∧ ∃ mA : Str → Option Value, (∀ f, RelO (fs.lookup f) (mA f)) ∧ ∀ n, PySem.W.lookIn n od = some (mA n) := by
  obtain ⟨t1, ho⟩ := exo_at I.hok ea
  obtain ⟨mA, hns, rel⟩ := exd_at I.hok ed
  obtain ⟨od, h1, h2⟩ := lookIn_ns hns
  exact ⟨_, od, ⟨ho, rfl, rfl, h1⟩, mA, rel, h2⟩
theorem call_isX : CallR X (.builtin "isinstance") (rIsX X.K) := by
  intro pins s σ H xs us Q I r h
  obtain ⟨a, C, dx, fs, n, i, c, cv, b, rfl, ea, ed, T, hcv, e, q⟩ := h
  cases r with
  | cons rx rr =>
    cases rr with
    | cons rt rr =>
      cases rr
      cases rx
      have ec := hcv _ rt
      subst ec
      obtain ⟨ox, od, J, _⟩ := inst_at I ea ed
      obtain ⟨cd, hc, _⟩ := PySem.W.any_some T.hd
      exact PySem.W.kia_one (PySem.W.kitx_exc (by rw [hc]; rfl) T.ga T.gg T.exC T.ca T.cn T.ct T.mr) I.kIn J e (fun z => nomatch z) fun tk => ⟨.bl b, H, I.kept (t' := tk) fun _ _ z => z, rfl, q⟩
/-- e.f -/
def tXfv (K : PySem.W.Frag) (f : Str) (te : TE) : TE := fun σ H Q => te σ H fun x H1 => ∃ (a C dx : Addr) (fs : List (Str × V)) (n i : String) (v : V), x = .ref a ∧ H1 a = some (exo a C (some dx)) ∧ H1 dx = some (exd dx fs) ∧ Exn K C n i ∧
  PySem.W.findIn K (.ref C) f = some none ∧ fs.lookup f = some v ∧ Q v H1
theorem pe_xfv (he : PE X e te) (hb : attributeBase e f X.env (eval e X.env) = eval e X.env := by rfl) : PE X (.Attribute e f pos) (tXfv X.K f te) := by
  refine ⟨fun pins s σ H Q I h => ?_⟩
  refine attr_of hb (thn (he.run pins s σ H _ I h) fun u s1 hh => ?_)
  obtain ⟨x, H1, I1, rx, a, C, dx, fs, n, i, v, ex, ea, ed, T, hno, l, q⟩ := hh
  subst ex
  obtain rfl : u = Value.ref a := rx
  obtain ⟨ox, od, J, mA, rel, look⟩ := inst_at I1 ea ed
  obtain ⟨u, hu, ru⟩ := RelO.some_of (v := v) (o := mA f) (by rw [← l]; exact rel f)
  exact HandSPX.exc_get I1.kIn J T.ga T.gg T.exC (PySem.W.findObj_own T.hd hno rfl (by rw [look, hu])) (handed_of ru) ⟨v, H1, I1.tok _, ru, q⟩
end
end Cor

set_option Elab.async false
set_option linter.all false
set_option maxRecDepth 100000
set_option maxHeartbeats 1000000
namespace Cor
open PySem PySem.Spec PyProof.Rows L2
theorem _root_.L2.PE.imp {X : Cx} {e : Expr} {t t' : TE} (h : PE X e t) (i : ∀ σ H Q, t' σ H Q → t σ H Q) : PE X e t' := ⟨fun pins s σ H Q I q => h.run pins s σ H Q I (i σ H Q q)⟩
def tMono (t : TE) : TE := fun σ H Q => ∃ R : VK, t σ H R ∧ ∀ v H', R v H' → Q v H'
theorem _root_.L2.PE.up {X : Cx} {e : Expr} {t : TE} (h : PE X e t) : PE X e (tMono t) :=
  ⟨fun pins s σ H Q I ⟨R, q, up⟩ => thn (h.run pins s σ H R I q) fun u s' ⟨v, H', J, r, z⟩ => ⟨v, H', J, r, up v H' z⟩⟩
/-- an exception of the class at C, with the one field f -/
def ExV (H : Hp) (a C : Addr) (f : Str) (v : V) : Prop := ∃ dx, H a = some (exo a C (some dx)) ∧ H dx = some (exd dx [(f, v)])
theorem ExV.same {H H' : Hp} {a C : Addr} {f : Str} {v : V} (s : Same H H') (h : ExV H a C f v) : ExV H' a C f v := let ⟨dx, h1, h2⟩ := h; ⟨dx, s _ _ h1, s _ _ h2⟩
def spInit (C : Addr) (f : Str) : Sp := fun vs H Q _ => ∃ (a : Addr) (v : V), vs = [.ref a, v] ∧ H a = some (exo a C none) ∧ ∀ dx, H dx = none → dx ≠ a → Q .non (upd (upd H dx (exd dx [(f, v)])) a (exo a C (some dx)))
/-- the exception class x of the text, whose __init__ keeps its one argument in f -/
def Xcl (P : Program) (w : World) (K : PySem.W.Frag) (mg : Str → Option Value) (base : Heap) (x : Str) (C : Addr) (f : Str) : Prop :=
  ∃ n i fI fd, Exn K C n i ∧ PySem.W.findIn K (.ref C) "__init__" = some (some (.ref fI)) ∧ PySem.W.typeIn K (.ref fI) = some (.type "function") ∧ FnOk P w K mg base CX0 1 fI fd ["self", f] (spInit C f) ∧ Binds K fd ["self", f] [] ∧
    (∀ (s : Shared) (a : Addr) (u : Value), K.In s.heap → BindsTo s fd ⟨[.ref a], [(f, u)]⟩ ((["self", f] : List Str).zip [.ref a, u])) ∧ mg x = some (.ref C) ∧ PySem.W.findIn K (.ref C) f = some none
/-- x(e) -/
def tNewX (C : Addr) (f : Str) (te : TE) : TE := fun σ H Q => te σ H fun v H1 => ∀ H' a, Same H1 H' → H1 a = none → ExV H' a C f v → Q (.ref a) H'
section
variable {X : Cx} {C : Addr} {f x : Str} {te : TE} {e : Expr} {p pos kpos : Pos}
theorem newx_end {H1 : Hp} {v : V} {Q : VK} (q : ∀ H' a, Same H1 H' → H1 a = none → ExV H' a C f v → Q (.ref a) H') (a : Addr) (na : H1 a = none) :
    spInit C f [.ref a, v] (upd H1 a (exo a C none)) (fun v H2 => v = .non ∧ Q (.ref a) H2) (fun _ _ _ => False) := by
  refine ⟨a, v, rfl, upd_same, fun dx hd hne => ⟨rfl, q _ a (fun b o z => ?_) na ⟨dx, upd_same, ?_⟩⟩⟩
  · rw [upd_ne hne] at hd
    rw [upd_ne (ne_of_none z na), upd_ne (ne_of_none z hd), upd_ne (ne_of_none z na)]
    exact z
  · rw [upd_ne hne, upd_same]
theorem pe_newx (D : Xcl X.prog X.w X.K X.mg X.base x C f) (hr : Room 2 X.A) (hg : Gl X x) (he : PE X e te) (hdb : (x == ("__debug__" : Str)) = false := by decide) (hs : starEach [e] X.env = (false, eval e X.env) :: starEach [] X.env := by rfl) :
    PE X (.Call (.Name x p) [e] [] pos) (tNewX C f te) := by
  obtain ⟨n, i, fI, fd, T, h1, h2, F, b, _, m, _⟩ := D
  refine (pe_exn T h1 h2 F hr b pass0 hg m (pa_cons he.up pa_nil hs) hdb hs rfl).imp fun σ H Q q => ?_
  exact ⟨_, q, fun v H1 z => ⟨by show 1 ≤ 1000; decide, fun a na => newx_end z a na⟩⟩
/-- x(f = e) -/
theorem pe_newxK (D : Xcl X.prog X.w X.K X.mg X.base x C f) (hr : Room 2 X.A) (hg : Gl X x) (he : PE X e te) (hk : PK X [⟨some f, e, kpos⟩] (tCons (tMono te) tNil)) (hdb : (x == ("__debug__" : Str)) = false := by decide)
    (hall : (backToKw pos (keywordEach [⟨some f, e, kpos⟩] X.env)).all (·.1.isSome) = true := by rfl) (hks : (backToKw pos (keywordEach [⟨some f, e, kpos⟩] X.env)).filterMap (·.1) = [f] := by rfl)
    (hpl : ((backTo pos (starEach [] X.env)).any (·.1) || (backToKw pos (keywordEach [⟨some f, e, kpos⟩] X.env)).any (·.1.isNone)) = false := by rfl) :
    PE X (.Call (.Name x p) [] [⟨some f, e, kpos⟩] pos) (tNewX C f te) := by
  obtain ⟨n, i, fI, fd, T, h1, h2, F, _, b, m, _⟩ := D
  refine (pe_exnK T h1 h2 F hr b pass0 hg m hk hdb hall hks hpl).imp fun σ H Q q => ?_
  exact ⟨_, q, fun v H1 z => ⟨rfl, by show 1 ≤ 1000; decide, fun a na => newx_end z a na⟩⟩
/-- o.f of such an exception -/
def tGetX (C : Addr) (f : Str) (te : TE) : TE := fun σ H Q => te σ H fun x H1 => ∃ a v, x = .ref a ∧ ExV H1 a C f v ∧ Q v H1
theorem pe_getx (D : Xcl X.prog X.w X.K X.mg X.base x C f) (he : PE X e te) (hb : attributeBase e f X.env (eval e X.env) = eval e X.env := by rfl) : PE X (.Attribute e f pos) (tGetX C f te) := by
  obtain ⟨n, i, fI, fd, T, _, _, _, _, _, _, no⟩ := D
  refine (pe_xfv he.up hb).imp fun σ H Q q => ?_
  refine ⟨_, q, fun y H1 z => ?_⟩
  obtain ⟨a, v, rfl, ⟨dx, e1, e2⟩, q⟩ := z
  exact ⟨a, C, dx, _, n, i, v, rfl, e1, e2, T, no, by simp [List.lookup], q⟩
end
/-- isinstance(o, c) of such an exception -/
def rIsV (K : PySem.W.Frag) : List V → Hp → VK → Prop := fun xs H Q => ∃ (a C : Addr) (f : Str) (v : V) (n i : String) (c : V) (cv : Value) (b : Bool), xs = [.ref a, c] ∧ ExV H a C f v ∧ Exn K C n i ∧ (∀ u, RelV c u → u = cv) ∧
  PySem.W.kitOne K (.ref C) cv = some b ∧ Q (.bl b) H
theorem call_isV {X : Cx} : CallR X (.builtin "isinstance") (rIsV X.K) := by
  intro pins s σ H xs us Q I r h
  obtain ⟨a, C, f, v, n, i, c, cv, b, rfl, ⟨dx, e1, e2⟩, T, hc, hk, q⟩ := h
  exact call_isX pins s σ H _ us Q I r ⟨a, C, dx, _, n, i, c, cv, b, rfl, e1, e2, T, hc, hk, q⟩
end Cor

set_option Elab.async false
set_option linter.all false
set_option maxRecDepth 100000
set_option maxHeartbeats 1000000
/-! Own operators, == and !=, str(..) and static methods of a class of the text. -/
namespace Cor
open PySem PySem.Spec PyProof.Rows L2
/-- a def by its address, that keeps sp at level k -/
def MdR (P : Program) (w : World) (K : PySem.W.Frag) (mg : Str → Option Value) (base : Heap) (k : Nat) (g : Addr) (sp : Sp) : Prop := FnR P w K mg base CX0 k g sp ∧ PySem.W.isFn K (.ref g) = true ∧ PySem.W.keepIn K (.ref g) = true
section
variable {X : Cx} {pins : List (Addr × Obj)} {σ : L2.St} {H : Hp} {s : Shared} {a C dx g : Addr} {fs : List (Str × V)} {k : Nat} {sp : Sp}
theorem ins_at (I : Inv X pins σ H s) (h : H a = some (.ins C dx fs)) : ∃ ox od, PySem.W.InstAt s.heap a ox C od := by
  obtain ⟨mA, O, _⟩ := ins_get I.hok h
  obtain ⟨od, J, _⟩ := O.look
  exact ⟨_, _, J⟩
/-- x op y, two instances of the class at C -/
def rOw2 (C : Addr) (sp : Sp) : R2 := fun x y H Q => ∃ a dx fs b dy gs, x = .ref a ∧ y = .ref b ∧ H a = some (.ins C dx fs) ∧ H b = some (.ins C dy gs) ∧ sp [x, y] H Q E0
theorem op_ow2 {op : Operator} (sf : PySem.W.selfFirst X.K C = true) (hs : PySem.W.findIn X.K (.ref C) (PySem.dunder op.info.2) = some (some (.ref g))) (M : MdR X.prog X.w X.K X.mg X.base k g sp) (hr : Room k X.A) : OpR X (binaryOp op) (rOw2 C sp) := by
  intro pins s σ H x y v u Q I rx ry h
  obtain ⟨a, dx, fs, b, dy, gs, rfl, rfl, ha, hb, q⟩ := h
  cases (show v = Value.ref a from rx)
  cases (show u = Value.ref b from ry)
  obtain ⟨ox, od, J⟩ := ins_at I ha
  obtain ⟨ox', od', J'⟩ := ins_at I hb
  obtain ⟨m, hF⟩ := I.fr
  refine PySem.W.binop_K hF I.ok.mod.kin J J'.type sf hs M.2.1 ?_
  refine wpAny_mono (wpAny_call (run_fnR (us := [.ref a, .ref b]) (vs := [.ref a, .ref b]) M.1 hr pass0 I (.cons rfl (.cons rfl .nil)) q)) (fun w s' z => ?_) fun _ _ x => x
  obtain ⟨z', H', I', rz, qz⟩ := z
  exact SlX.cmpback rz ⟨z', H', I', rz, qz⟩
/-- x op n, an instance and an int (or a truth): T the type's name -/
def rOwT (C : Addr) (T : String) (sp : Sp) : R2 := fun x y H Q => ∃ a dx fs, x = .ref a ∧ H a = some (.ins C dx fs) ∧ ((T = "int" ∧ ∃ n, y = .int n) ∨ (T = "bool" ∧ ∃ n, y = .bl n)) ∧ sp [x, y] H Q E0
theorem op_owT {op : Operator} {T : String} {fo ro rc : Option Value} (sf : PySem.W.selfFirst X.K C = true) (hs : PySem.W.findIn X.K (.ref C) (PySem.dunder op.info.2) = some (some (.ref g)))
    (hrc : PySem.W.findIn X.K (.ref C) (PySem.dunderR op.info.2) = some rc) (hp : rc = none ∨ ∃ g : Addr, rc = some (.ref g)) (h1 : PySem.W.findIn X.K (.type T) (PySem.dunder op.info.2) = some fo) (h2 : PySem.W.findIn X.K (.type T) (PySem.dunderR op.info.2) = some ro)
    (hsub : PySem.W.subIn X.K (.type T) (.ref C) = some false) (M : MdR X.prog X.w X.K X.mg X.base k g sp) (hr : Room k X.A) : OpR X (binaryOp op) (rOwT C T sp) := by
  intro pins s σ H x y v u Q I rx ry h
  obtain ⟨a, dx, fs, rfl, ha, hy, q⟩ := h
  cases (show v = Value.ref a from rx)
  obtain ⟨ox, od, J⟩ := ins_at I ha
  obtain ⟨m, hF⟩ := I.fr
  have ty : typeOf u = pure (.type T) := by
    rcases hy with ⟨rfl, n, rfl⟩ | ⟨rfl, n, rfl⟩
    · obtain ⟨t, rfl⟩ := (show ∃ t, u = Value.int n t from ry); rfl
    · cases (show u = Value.bool n from ry); rfl
  refine PySem.W.ksp_binT hF I.ok.mod.kin J ty sf hs M.2.1 hrc hp h1 h2 hsub ?_
  refine wpAny_mono (wpAny_call (run_fnR (us := [.ref a, u]) (vs := [.ref a, y]) M.1 hr pass0 I (.cons rfl (.cons ry .nil)) q)) (fun w s' z => ?_) fun _ _ x => x
  obtain ⟨z', H', I', rz, qz⟩ := z
  exact SlX.cmpback rz ⟨z', H', I', rz, qz⟩
/-- -x, ~x -/
def rOw1 (C : Addr) (sp : Sp) : V → Hp → VK → Prop := fun x H Q => ∃ a dx fs, x = .ref a ∧ H a = some (.ins C dx fs) ∧ sp [x] H Q E0
theorem un_owN (hs : PySem.W.findIn X.K (.ref C) "__neg__" = some (some (.ref g))) (M : MdR X.prog X.w X.K X.mg X.base k g sp) (hr : Room k X.A) : UnR X (unaryOp .USub) (rOw1 C sp) := by
  intro pins s σ H x v Q I rx h
  obtain ⟨a, dx, fs, rfl, ha, q⟩ := h
  cases (show v = Value.ref a from rx)
  obtain ⟨ox, od, J⟩ := ins_at I ha
  obtain ⟨m, hF⟩ := I.fr
  exact PySem.W.ksp_neg hF I.ok.mod.kin J hs M.2.1 (wpAny_call (run_fnR (us := [.ref a]) (vs := [.ref a]) M.1 hr pass0 I (.cons rfl .nil) q))
theorem un_owI (hs : PySem.W.findIn X.K (.ref C) "__invert__" = some (some (.ref g))) (M : MdR X.prog X.w X.K X.mg X.base k g sp) (hr : Room k X.A) : UnR X (unaryOp .Invert) (rOw1 C sp) := by
  intro pins s σ H x v Q I rx h
  obtain ⟨a, dx, fs, rfl, ha, q⟩ := h
  cases (show v = Value.ref a from rx)
  obtain ⟨ox, od, J⟩ := ins_at I ha
  obtain ⟨m, hF⟩ := I.fr
  exact PySem.W.ksp_inv hF I.ok.mod.kin J hs M.2.1 (wpAny_call (run_fnR (us := [.ref a]) (vs := [.ref a]) M.1 hr pass0 I (.cons rfl .nil) q))
/-- x == y -/
theorem op_owEq (hs : PySem.W.findIn X.K (.ref C) "__eq__" = some (some (.ref g))) (M : MdR X.prog X.w X.K X.mg X.base k g sp) (hr : Room k X.A) : OpR X (compareOp .Eq) (rOw2 C sp) := by
  intro pins s σ H x y v u Q I rx ry h
  obtain ⟨a, dx, fs, b, dy, gs, rfl, rfl, ha, hb, q⟩ := h
  cases (show v = Value.ref a from rx)
  cases (show u = Value.ref b from ry)
  obtain ⟨ox, od, J⟩ := ins_at I ha
  obtain ⟨ox', od', J'⟩ := ins_at I hb
  obtain ⟨m, hF⟩ := I.fr
  refine PySem.W.cmp_K (op := .Eq) (tb := .ref C) hr.units0 hF I.ok.mod.kin J J'.type (by simp [PySem.W.notFirst]) hs M.2.1 ?_
  refine wpAny_mono (wpAny_call (run_fnR (us := [.ref a, .ref b]) (vs := [.ref a, .ref b]) M.1 hr pass0 I (.cons rfl (.cons rfl .nil)) q)) (fun w s' z => ?_) fun _ _ x => x
  obtain ⟨z', H', I', rz, qz⟩ := z
  exact SlX.cmpback rz ⟨z', H', I', rz, qz⟩
end
section
variable {prog : Program} {w : World} {A : Around} {E : Value → Shared → Prop} {s : Shared} {K : PySem.W.Frag} {x y C f : Addr} {ox : Obj} {od : Option Obj}
theorem ifBound_B {M : Model} {name : Str} {id B : String} {args : List Value} {Q : Option Value → Shared → Prop} (S : PySem.Slot B name id) (X : K.In s.heap) (I : PySem.W.InstAt s.heap x ox C od) (hf : PySem.W.findIn K (.ref C) name = some (some (.builtin id)))
    (h : wpAny M A (call (.builtin id) (.ref x :: args)) (fun v => Q (some v)) E s) : wpAny M A (callSpecialIfBound? (.ref x) name args) Q E s := by
  simp only [callSpecialIfBound?, bindSpecialIfBound?]
  unfold specialOf
  refine wpAny_holding (wpAny_bind (wpAny_bind (wpAny_bind (I.type.here ((PySem.W.looks_findIn X hf).here ?_)))))
  simp only [S.bind]
  refine wpAny_bind (wpAny_askSetting (wpAny_ite ?_))
  have fin : wpAny M A (call (.builtin id) ([.ref x] ++ args) >>= fun v => pure (some v)) Q E s := wpAny_bind (wpAny_mono h (fun v s' h' => wpAny_pure h') fun _ _ h' => h')
  split
  · exact wpAny_bind (wpAny_pure (wpAny_pure (by exact fin)))
  · exact wpAny_tryCatch (wpAny_bind (wpAny_pure (wpAny_pure (by exact fin))))
theorem ne_K {Q : Value → Shared → Prop} (X : K.In s.heap) (I : PySem.W.InstAt s.heap x ox C od) (hb : PySem.W.Looks (model prog w) s.heap (typeOf (.ref y)) (.ref C)) (hn : PySem.W.findIn K (.ref C) "__ne__" = some (some (.builtin "object.__ne__")))
    (ho : PySem.W.subIn K (.ref C) (.type "object") = some true) (hs : PySem.W.findIn K (.ref C) "__eq__" = some (some (.ref f))) (hf : PySem.W.isFn K (.ref f) = true) (hu : A.units + 1 < cLine)
    (h : wpAny (model prog w) A.in1 (call (.ref f) [.ref x, .ref y]) (fun v s' => ∃ b, v = .bool b ∧ Q (.bool (!b)) s') E s) : wpAny (model prog w) A (richCompare .NotEq (.ref x) (.ref y)) Q E s := by
  unfold richCompare
  simp only [oneThing_ref]
  refine wpAny_holding (wpAny_bind (wpAny_cRoomFor (Nat.lt_of_succ_lt hu) ?_))
  refine wpAny_bind (I.type.here (wpAny_bind (hb.here ?_)))
  rw [show (Value.ref C != Value.ref C) = false from by simp]
  simp only [Bool.false_eq_true, if_false]
  refine wpAny_bind (wpAny_pure ?_)
  simp only [Bool.false_eq_true, if_false]
  rw [cmpInfo_NotEq]
  dsimp only
  refine wpAny_bind (m := tryCompare (.ref x) "__ne__" (.ref y)) ?_
  unfold tryCompare
  refine wpAny_bind (ifBound_B F.cmp_object.ne X I hn ?_)
  have hi : PySem.W.Looks (model prog w) s.heap (isInstance (.ref x) (.type "object")) true := I.type.andThen (PySem.W.looks_subIn X ho)
  refine wpAny_call (codeAny_call_builtin F.cmp_object.ne.plain F.cmpEntry_ne (PySem.W.check_slot F.cmpKind_ne F.cmpSplit_ne hi (F.cmpArgs_ne _ _) ?_))
  obtain ⟨hh, g, d, t, os⟩ := s
  unfold Builtin.«object.__ne__»
  refine wpAny_bind (m := slotArgs "__ne__" 1 _) (wpAny_pure ?_)
  refine wpAny_bind (wpAny_cRoomFor hu ?_)
  refine wpAny_bind (m := callSpecialIfBound? (.ref x) (Str.ofString "__eq__") [.ref y]) (PySem.W.ifBound_K X I hs hf (wpAny_mono h (fun r s' hr => ?_) fun _ _ e => e))
  obtain ⟨b, rfl, hq⟩ := hr
  refine wpAny_bind (m := truthy (.bool _)) (wpAny_truthy_bool ?_)
  exact wpAny_pure (wpAny_pure (wpAny_pure hq))
end
/-- x != y, by the class's == -/
def rOwNe (C : Addr) (sp : Sp) : R2 := fun x y H Q => ∃ a dx fs b dy gs, x = .ref a ∧ y = .ref b ∧ H a = some (.ins C dx fs) ∧ H b = some (.ins C dy gs) ∧ sp [x, y] H (fun z H' => ∃ c, z = .bl c ∧ Q (.bl (!c)) H') E0
section
variable {X : Cx} {C g : Addr} {k : Nat} {sp : Sp}
theorem op_owNe (hs : PySem.W.findIn X.K (.ref C) "__eq__" = some (some (.ref g))) (hn : PySem.W.findIn X.K (.ref C) "__ne__" = some (some (.builtin "object.__ne__"))) (ho : PySem.W.subIn X.K (.ref C) (.type "object") = some true)
    (M : MdR X.prog X.w X.K X.mg X.base k g sp) (hr : Room (k + 1) X.A) : OpR X (compareOp .NotEq) (rOwNe C sp) := by
  intro pins s σ H x y v u Q I rx ry h
  obtain ⟨a, dx, fs, b, dy, gs, rfl, rfl, ha, hb, q⟩ := h
  cases (show v = Value.ref a from rx)
  cases (show u = Value.ref b from ry)
  obtain ⟨ox, od, J⟩ := ins_at I ha
  obtain ⟨ox', od', J'⟩ := ins_at I hb
  show wpAny _ _ (richCompare .NotEq (.ref a) (.ref b)) _ _ _
  refine ne_K I.kIn J J'.type hn ho hs M.2.1 (hu_of hr) ?_
  refine wpAny_mono (wpAny_call (SlX.run_at (us := [.ref a, .ref b]) (ws := [.ref a, .ref b]) M.1 hr.in1 I.env0.in1 pass0 I (.cons rfl (.cons rfl .nil)) q)) (fun w s' z => ?_) fun _ _ x => x
  obtain ⟨z', H', I', rz, c, rfl, qz⟩ := z
  cases rz
  exact ⟨c, rfl, .bl (!c), H', I', rfl, qz⟩
end
end Cor

set_option Elab.async false
set_option linter.all false
set_option maxRecDepth 100000
set_option maxHeartbeats 1000000
namespace Cor
open PySem PySem.Spec PyProof.Rows L2
/-- the class at S, named x, has the static method m, the def at f -/
structure Stm (K : PySem.W.Frag) (mg : Str → Option Value) (x : Str) (S : Addr) (m : Str) (f : Addr) : Prop where
  nm : mg x = some (.ref S)
  rd : ∃ mc, ClX.CRead K S mc ∧ ∃ p rest, PySem.W.findCls K (.ref S) mc m = some (.get (.builtin "staticmethod.__get__") (.ref p) .none (.ref S)) ∧ PySem.W.recIn K p "staticmethod" = some (.ref f :: rest)
section
variable {X : Cx} {e : Expr} {es : List Expr} {ta : TA} {m x : Str} {p1 p2 pos : Pos} {S f : Addr} {k : Nat} {sp : Sp}
/-- S.m(e, ..), m a static method -/
theorem pe_sm {pl : Sem Bool} (T : Stm X.K X.mg x S m f) (M : MdR X.prog X.w X.K X.mg X.base k f sp) (hr : Room k X.A) (hg : Gl X x) (ha : PA X (e :: es) ta) (hdb : (x == ("__debug__" : Str)) = false := by decide)
    (hc : eval (.Call (.Attribute (.Name x p1) m p2) (e :: es) [] pos) X.env = (do
      let ov ← eval (.Name x p1) X.env
      standAt p2.atName
      let (f, first) ← holding [ov] (getMethod ov m pl)
      callWith pos f first (backTo pos (starEach (e :: es) X.env)) (backToKw pos (keywordEach [] X.env))) := by rfl)
    (he : starEach (e :: es) X.env = (false, eval e X.env) :: starEach es X.env := by rfl) (hpl : (backTo pos (starEach es X.env)).any (·.1) = false := by rfl) :
    PE X (.Call (.Attribute (.Name x p1) m p2) (e :: es) [] pos) (fun σ H Q => ta σ H fun vs H1 => sp vs H1 Q E0) := by
  refine ⟨fun pins s σ H Q I h => ?_⟩
  obtain ⟨mc, rd, p, rest, fc, rc⟩ := T.rd
  refine PySem.W.methodCall_KW (ld_glob I hg T.nm ?_ hdb) hc
  refine PySem.W.method_cls I.kIn rd.ga (PySem.W.cls_bind I.kIn rd.rd fc (wpAny_call (PySem.W.sm_get (s := { s with toks := s.toks + 1 }) I.kIn rc (PySem.W.handed_on rfl ?_))))
  refine PySem.W.callWith_K (h₀ := X.base) I.ok.mod.kin M.2.2 (thn (ha.run pos pins _ σ H _ (I.tok _) h) fun us s1 ⟨vs, H1, I1, r, q⟩ => ⟨I1.kIn, ?_⟩) he hpl
  exact wpAny_call (run_fnR M.1 hr pass0 I1 r q)
end
section
variable {prog : Program} {w : World} {A : Around} {E : Value → Shared → Prop} {s : Shared} {K : PySem.W.Frag} {x C f : Addr} {ox : Obj} {od : Option Obj}
open Builtin Builtin.Str in
theorem str_own {Q : Value → Shared → Prop} (hu : A.in1.in1.units < cLine) (X : K.In s.heap) (I : PySem.W.InstAt s.heap x ox C od) (hs : PySem.W.findIn K (.ref C) "__str__" = some (some (.ref f))) (hf : PySem.W.isFn K (.ref f) = true)
    (h : wpAny (model prog w) A.in1.in1 (call (.ref f) [.ref x]) (fun r s' => ∃ y u, r = .str y u ∧ Q r s') E s) : wpAny (model prog w) A (call (.type "str") [.ref x]) Q E s := by
  refine PySem.callType_codes (T := "str") (Bi := Builtin.«object.__init__») (Q₁ := fun r s₁ => ∃ y u, r = .str y u ∧ Q r s₁) PySem.F.called_str (PySem.F.typeCall_str_1 _) PySem.F.entry_object_init ?_ ?_
  · refine codeAny_of_tree ?_
    show wpAny _ A.in1.in1 (do checkBuiltinCall "str.__new__" ⟨[.type "str", .ref x], []⟩; again (.builtin "str.__new__" ⟨[.type "str", .ref x], []⟩)) _ _ s
    refine wpAny_bind (wpAny_of_eq (PySem.F.newCall_str_1 _) (wpAny_pure ⟨plainId_quiet (by decide +kernel) _, codeAny_builtin PySem.F.entry_str_new ?_⟩))
    rw [Around.under_plainId (by decide +kernel) _]
    rw [str_new_tree]
    refine wpAny_bind (wpAny_pure ?_)
    refine wpAny_bind (wpAny_of_eq isSubtype_str_str ?_)
    have key : wpAny (model prog w) A.in1.in1 (PySem.Builtin.Str.strOf (.ref x)) (fun r s₁ => ∃ y u, r = .str y u ∧ Q r s₁) E s := by
      unfold PySem.Builtin.Str.strOf
      rw [show isExactStr (.ref x) = false from rfl]
      refine wpAny_bind (m := cRoomFor _ _) (wpAny_cRoomFor hu ?_)
      refine wpAny_bind (m := callSpecial? (.ref x) (Str.ofString "__str__")) (PySem.W.special_fn X I hs (beq_iff_eq.mp hf) (wpAny_mono h (fun r s' z => ?_) fun _ _ y => y))
      obtain ⟨y, u, rfl, z⟩ := z
      exact wpAny_pure ⟨_, _, rfl, z⟩
    exact wpAny_bind (wpAny_mono key (fun r s₁ hr => wpAny_pure hr) fun _ _ y => y)
  · rintro obj s₁ ⟨y, u, rfl, hq⟩
    exact ⟨typeIs_str _ _ _, PySem.F.args_object_init_2 _ _, object_init_meets PySem.F.called_str.init.lookup PySem.F.called_str.made (by decide) prog w A.in1 _ s₁ ⟨typeIs_str _ _ _, rfl, hq⟩⟩
end
/-- str(x), x an instance of the class at C whose __str__ is at g -/
def rStrO (C : Addr) (sp : Sp) : List V → Hp → VK → Prop := fun xs H Q => ∃ a dx fs, xs = [.ref a] ∧ H a = some (.ins C dx fs) ∧ sp [.ref a] H (fun z H' => ∃ y, z = .str y ∧ Q z H') E0
theorem call_strO {X : Cx} {C g : Addr} {k : Nat} {sp : Sp} (hs : PySem.W.findIn X.K (.ref C) "__str__" = some (some (.ref g))) (M : MdR X.prog X.w X.K X.mg X.base k g sp) (hr : Room (k + 2) X.A) : CallR X (.type "str") (rStrO C sp) := by
  intro pins s σ H xs us Q I r h
  obtain ⟨a, dx, fs, rfl, ha, q⟩ := h
  rw [Vals.ref1 r]
  obtain ⟨ox, od, J⟩ := ins_at I ha
  have hr2 : Room k X.A.in1.in1 := (show Room (k + 1) X.A.in1 from Room.in1 hr).in1
  refine str_own hr2.units0 I.kIn J hs M.2.1 (wpAny_mono (wpAny_call (SlX.run_at (us := [.ref a]) (ws := [.ref a]) M.1 hr2 I.env0.in1.in1 pass0 I (.cons rfl .nil) q)) (fun w s' z => ?_) fun _ _ x => x)
  obtain ⟨z', H', I', rz, y, rfl, qz⟩ := z
  obtain ⟨t, rfl⟩ := rz
  exact ⟨y, t, rfl, .str y, H', I', ⟨t, rfl⟩, qz⟩
end Cor

set_option Elab.async false
set_option linter.all false
set_option maxRecDepth 100000
set_option maxHeartbeats 1000000
/-! raise x(e), x an own exception class over any base whose __init__ keeps its argument. -/
namespace Cor
open PySem PySem.Spec PyProof.Rows L2 PySem.OEX PySem.W
section
variable {X : Cx} {x : Str} {e : Expr} {es : List Expr} {ta : TA} {p pos : Pos} {newId initId : String}
theorem pmk_exn {CX : CXT} {C fI : Addr} {k : Nat} {fd : FuncData} {ps : List Str} {sp : Sp} (T : Exn X.K C newId initId) (iC : PySem.W.findIn X.K (.ref C) "__init__" = some (some (.ref fI))) (tI : PySem.W.typeIn X.K (.ref fI) = some (.type "function"))
    (F1 : FnOk X.prog X.w X.K X.mg X.base CX k fI fd ps sp) (hr : Room (k + 1) X.A) (hb : Binds X.K fd ps []) (hx : Passes CX X (fun _ _ _ => False)) (hg : Gl X x) (hm : X.mg x = some (.ref C)) (ha : PA X (e :: es) ta)
    (hdb : (x == ("__debug__" : Str)) = false := by decide) (he : starEach (e :: es) X.env = (false, eval e X.env) :: starEach es X.env := by rfl) (hpl : (backTo pos (starEach es X.env)).any (·.1) = false := by rfl) :
    PMk X (.Call (.Name x p) (e :: es) [] pos) (tMkO C sp [] ta) := by
  intro pins s σ H Q I h
  obtain ⟨Bn, Bi, nm, q, N, bs, bm, sn, sub, ab, col, dd, k0, k1, k2, k3, k5, b, l⟩ := T.cls
  obtain ⟨i0, bmB, NF⟩ := b.nw
  have L : Line Bn bm := ⟨by rw [strip_cont]; exact b.line.has, by rw [strip_cont]; exact b.line.noA, by rw [strip_cont]; exact b.line.noN⟩
  refine wpAny_Call_Name_kw (ld_glob I hg hm ?_ hdb)
  refine PySem.W.callWith_K (h₀ := X.base) I.ok.mod.kin T.kC (thn (ha.run pos pins s σ H _ I h) fun us s1 ⟨vs, H1, I1, r1, hz, q1⟩ => ⟨I1.kIn, ?_⟩) he hpl
  show wpAny _ _ (call (.ref C) us) _ _ _
  have hus : us.length ≤ sizeLine := by
    rw [← Paired.length r1, sizeLine_eq]
    omega
  obtain ⟨hp, g, dr, tk, os⟩ := s1
  have hsz : hp.objs.size ≤ hp.objs.size + 1 := Nat.le_succ _
  have hn : H1 (hp.objs.size + 1) = none := I1.hok.fresh hsz
  have hq := q1 (hp.objs.size + 1) hn
  have kk : ∀ b o, hp.get? b = some o → ((hp.push (PySem.W.kdv_tup us)).push (HandSPX.excO C hp.objs.size)).get? b = some o := fun b o e => Heap.get?_push_of_some _ (Heap.get?_push_of_some _ e)
  have hget : ((hp.push (PySem.W.kdv_tup us)).push (HandSPX.excO C hp.objs.size)).get? (hp.objs.size + 1) = some (HandSPX.excO C hp.objs.size) := by heap_get
  have I2 : Inv X pins σ (upd H1 (hp.objs.size + 1) (exo (hp.objs.size + 1) C none)) ⟨(hp.push (PySem.W.kdv_tup us)).push (HandSPX.excO C hp.objs.size), g, dr, tk, os⟩ :=
    I1.laid (t' := tk) (a := hp.objs.size + 1) (o := exo (hp.objs.size + 1) C none) (h' := (hp.push (PySem.W.kdv_tup us)).push (HandSPX.excO C hp.objs.size)) kk hsz (exo_ok hget)
  rw [List.append_nil] at hq
  have r2 : Vals (V.ref (hp.objs.size + 1) :: vs) (Value.ref (hp.objs.size + 1) :: us) := .cons rfl r1
  have hl : (Value.ref (hp.objs.size + 1) :: us ++ []).length = ps.length := by
    rw [List.append_nil]
    have e := r2.length
    rw [F1.len _ _ _ _ hq] at e
    exact e.symm
  have hbb := hb ⟨(hp.push (PySem.W.kdv_tup us)).push (HandSPX.excO C hp.objs.size), g, dr, tk, os⟩ (Value.ref (hp.objs.size + 1) :: us) I2.kIn hl
  rw [List.append_nil] at hbb
  refine wpAny_call (call_cls NF L (I1.kIn _ _ l) (PySem.W.looks_findIn I1.kIn iC) (fun self => PySem.W.bind_fn I1.kIn self tI) hus ?_)
  refine codeAny_mono (F1.run _ X.stack _ _ ⟨Value.ref (hp.objs.size + 1) :: us, []⟩ (Value.ref (hp.objs.size + 1) :: us) _ _ (fun _ _ _ => False) (hr.make C us []) (I2.env0.make C us []) hbb r2 hq) fun r s' hq' => ?_
  cases r with
  | error er => exact hx pins σ _ _ er s' I2 hq'
  | ok fl =>
    cases fl with
    | ret u =>
      obtain ⟨v, H2, os2, bare2, un2, hok2, rv, ev, d, fs, ea, ed, hd1, q2⟩ := hq'
      subst ev
      obtain ⟨h2, g2, d2, t2, os'⟩ := s'
      exact ⟨rv, mk_end (raises_own T.exC T.tyC) I1 hsz kk un2 hok2 os2 bare2 ea ed hd1 q2⟩
    | next => exact False.elim hq'
    | brk => exact False.elim hq'
    | cont => exact False.elim hq'
end
/-- raise x(e): all that stood, and the exception's dict -/
def tMkX (C : Addr) (f : Str) (te : TE) : L2.St → Hp → XK → Prop := fun σ H Q => te σ H fun v H1 => ∀ d H', Same H1 H' → H1 d = none → H' d = some (.xd [(f, v)]) → Q (.ref C) (some d) H'
theorem PMk.imp {X : Cx} {e : Expr} {t t' : L2.St → Hp → XK → Prop} (h : PMk X e t) (i : ∀ σ H Q, t' σ H Q → t σ H Q) : PMk X e t' := fun pins s σ H Q I q => h pins s σ H Q I (i σ H Q q)
theorem pmk_x {X : Cx} {C : Addr} {f x : Str} {te : TE} {e : Expr} {p pos : Pos} (D : Xcl X.prog X.w X.K X.mg X.base x C f) (hr : Room 2 X.A) (hg : Gl X x) (he : PE X e te) (hdb : (x == ("__debug__" : Str)) = false := by decide) (hs : starEach [e] X.env = (false, eval e X.env) :: starEach [] X.env := by rfl) :
    PMk X (.Call (.Name x p) [e] [] pos) (tMkX C f te) := by
  obtain ⟨n, i, fI, fd, T, h1, h2, F, b, _, m, _⟩ := D
  refine PMk.imp (pmk_exn T h1 h2 F hr b pass0 hg m (pa_cons he.up pa_nil hs) hdb hs rfl) fun σ H Q q => ?_
  refine ⟨_, q, fun v H1 z => ⟨by show 1 ≤ 1000; decide, fun a na => ?_⟩⟩
  refine ⟨a, v, rfl, upd_same, fun dx hd hne => ⟨rfl, dx, _, upd_same, by rw [upd_ne hne, upd_same], ?_, ?_⟩⟩
  · rw [upd_ne hne] at hd
    exact hd
  · rw [upd_ne hne] at hd
    refine z dx _ (fun b o e => ?_) hd upd_same
    rw [upd_ne (ne_of_none e hd), del_ne (ne_of_none e na), upd_ne (ne_of_none e na), upd_ne (ne_of_none e hd), upd_ne (ne_of_none e na)]
    exact e
/-! ### calls of defs that may raise; W, what is wished of what they let out -/
section
variable {X : Cx} {pins : List (Addr × Obj)} {σ : L2.St} {H : Hp} {s : Shared}
theorem run_fnRW {k : Nat} {f : Addr} {sp : Sp} {W : WX} {Q : VK} {us : List Value} {vs : List V} (F : FnR X.prog X.w X.K X.mg X.base (L2.CX X.prog X.w) k f sp) (hr : Room k X.A) (tk : Takes X W) (I : Inv X pins σ H s) (r : Vals vs us) (h : sp vs H Q (fun cls d H' => W cls d σ H')) :
    codeAny (model X.prog X.w) X.A (.call (.ref f) ⟨us, []⟩) (fun r s' => match r with | .ok (.ret v) => EP X pins σ Q v s' | .ok _ => False | .error e => X.xe e s') s := by
  refine codeAny_mono (F X.A X.stack s H us vs Q _ hr I.env0 r h) fun r s' hq => ?_
  cases r with
  | error e => exact tk e s' (XE.of_call I (fun cls d H' h => h) hq)
  | ok fl =>
    cases fl with
    | ret u => exact I.after hq
    | next => exact False.elim hq
    | brk => exact False.elim hq
    | cont => exact False.elim hq
end
/-- what a call asks -/
def tW (W : WX) (sp : Sp) (ta : TA) : TE := fun σ H Q => ta σ H fun vs H1 => sp vs H1 Q (fun cls d H2 => W cls d σ H2)
def MdX (P : Program) (w : World) (K : PySem.W.Frag) (mg : Str → Option Value) (base : Heap) (k : Nat) (f : Addr) (sp : Sp) : Prop := FnR P w K mg base (L2.CX P w) k f sp ∧ PySem.W.isFn K (.ref f) = true ∧ PySem.W.keepIn K (.ref f) = true
section
variable {X : Cx} {e : Expr} {es : List Expr} {ta : TA} {m x : Str} {p p1 p2 pos : Pos} {S f : Addr} {k : Nat} {sp : Sp} {W : WX}
/-- f(e, ..) -/
theorem pe_fnW (M : MdX X.prog X.w X.K X.mg X.base k f sp) (hr : Room k X.A) (tk : Takes X W) (hg : Gl X x) (hm : X.mg x = some (.ref f)) (ha : PA X (e :: es) ta) (hdb : (x == ("__debug__" : Str)) = false := by decide)
    (he : starEach (e :: es) X.env = (false, eval e X.env) :: starEach es X.env := by rfl) (hpl : (backTo pos (starEach es X.env)).any (·.1) = false := by rfl) :
    PE X (.Call (.Name x p) (e :: es) [] pos) (tW W sp ta) := by
  refine ⟨fun pins s σ H Q I h => ?_⟩
  refine wpAny_Call_Name_kw (ld_glob I hg hm ?_ hdb)
  refine PySem.W.callWith_K (h₀ := X.base) I.ok.mod.kin M.2.2 (thn (ha.run pos pins s σ H _ I h) fun us s1 ⟨vs, H1, I1, r1, q1⟩ => ⟨I1.kIn, ?_⟩) he hpl
  exact wpAny_call (run_fnRW M.1 hr tk I1 r1 q1)
/-- S.m(e, ..), m a static method -/
theorem pe_smW {pl : Sem Bool} (T : Stm X.K X.mg x S m f) (M : MdX X.prog X.w X.K X.mg X.base k f sp) (hr : Room k X.A) (tk : Takes X W) (hg : Gl X x) (ha : PA X (e :: es) ta) (hdb : (x == ("__debug__" : Str)) = false := by decide)
    (hc : eval (.Call (.Attribute (.Name x p1) m p2) (e :: es) [] pos) X.env = (do
      let ov ← eval (.Name x p1) X.env
      standAt p2.atName
      let (f, first) ← holding [ov] (getMethod ov m pl)
      callWith pos f first (backTo pos (starEach (e :: es) X.env)) (backToKw pos (keywordEach [] X.env))) := by rfl)
    (he : starEach (e :: es) X.env = (false, eval e X.env) :: starEach es X.env := by rfl) (hpl : (backTo pos (starEach es X.env)).any (·.1) = false := by rfl) :
    PE X (.Call (.Attribute (.Name x p1) m p2) (e :: es) [] pos) (tW W sp ta) := by
  refine ⟨fun pins s σ H Q I h => ?_⟩
  obtain ⟨mc, rd, p, rest, fc, rc⟩ := T.rd
  refine PySem.W.methodCall_KW (ld_glob I hg T.nm ?_ hdb) hc
  refine PySem.W.method_cls I.kIn rd.ga (PySem.W.cls_bind I.kIn rd.rd fc (wpAny_call (PySem.W.sm_get (s := { s with toks := s.toks + 1 }) I.kIn rc (PySem.W.handed_on rfl ?_))))
  refine PySem.W.callWith_K (h₀ := X.base) I.ok.mod.kin M.2.2 (thn (ha.run pos pins _ σ H _ (I.tok _) h) fun us s1 ⟨vs, H1, I1, r, q⟩ => ⟨I1.kIn, ?_⟩) he hpl
  exact wpAny_call (run_fnRW M.1 hr tk I1 r q)
end
/-! ### the exception in an except suite, with its dict -/
def rIsD (K : PySem.W.Frag) (a : Addr) (cls : Value) (d : Option Addr) : List V → Hp → VK → Prop := fun xs H Q => ∃ (D dd : Addr) (fs : List (Str × V)) (n i : String) (c : V) (cv : Value) (b : Bool), cls = .ref D ∧ d = some dd ∧ xs = [.ref a, c] ∧ H dd = some (.xd fs) ∧ Exn K D n i ∧ (∀ u, RelV c u → u = cv) ∧ PySem.W.kitOne K (.ref D) cv = some b ∧ Q (.bl b) H
theorem call_isD {X : Cx} {a : Addr} {cls : Value} {d : Option Addr} {oe : Obj} {pn : List (Addr × Obj)} (hz : Zc cls d oe) (hf : ∃ vs, oe.data = .fields vs) : CallR (X.suite a ((a, oe) :: pn)) (.builtin "isinstance") (rIsD X.K a cls d) := by
  intro pins s σ H xs us Q I r h
  obtain ⟨D, dd, fs, n, i, c, cv, b, rfl, rfl, rfl, ed, T, hcv, e, q⟩ := h
  cases r with
  | cons rx rr =>
    cases rr with
    | cons rt rr =>
      cases rr
      cases rx
      have ec := hcv _ rt
      subst ec
      obtain ⟨hget, _⟩ := I.pin (a, oe) (List.mem_append.mpr (.inl List.mem_cons_self))
      obtain ⟨vs, hv⟩ := hf
      have hx : ObjOk X.prog X.w H s.heap dd (.xd fs) := I.hok dd _ ed
      obtain ⟨mA, hns, hr⟩ := hx
      obtain ⟨od, ho, hl⟩ := lookIn_ns hns
      have J : PySem.W.InstAt s.heap a oe D (some od) := ⟨hget, hz.1, by unfold PySem.W.notCls; rw [hv] <;> rfl, by rw [hz.2]; exact ho⟩
      obtain ⟨cd, hc, _⟩ := PySem.W.any_some T.hd
      exact PySem.W.kia_one (PySem.W.kitx_exc (by rw [hc]; rfl) T.ga T.gg T.exC T.ca T.cn T.ct T.mr) I.kIn J e (fun z => nomatch z) fun tk => ⟨.bl b, H, I.kept (t' := tk) fun _ _ z => z, rfl, q⟩
end Cor

set_option linter.all false
/-! Trees of cases: plain Lean. -/
namespace Cor
/-- a plain value -/
inductive Lf where
  | i (n : Int)
  | b (v : Bool)
  deriving DecidableEq
/-- a tree of cases -/
inductive Tr where
  | lf (v : Lf)
  | nd (n : Int) (y o : Tr)
  deriving DecidableEq
abbrev Rho := Int → Bool
def Rho.put (r : Rho) (n : Int) (b : Bool) : Rho := fun m => if m = n then b else r m
def Tr.ev (r : Rho) : Tr → Lf
  | .lf v => v
  | .nd n y o => if r n = true then y.ev r else o.ev r
def Tr.nums : Tr → List Int
  | .lf _ => []
  | .nd n y o => n :: (y.nums ++ o.nums)
def Tr.dep : Tr → Nat
  | .lf _ => 0
  | .nd _ y o => max y.dep o.dep + 1
/-- the one form over the numbers S, ascending; g holds of its plain values -/
def Cn (g : Lf → Prop) : List Int → Tr → Prop
  | _, .lf v => g v
  | [], .nd _ _ _ => False
  | s :: S, .nd n y o => (n = s ∧ y ≠ o ∧ Cn g S y ∧ Cn g S o) ∨ Cn g S (.nd n y o)
abbrev Asc (S : List Int) : Prop := S.Pairwise (· < ·)

section
variable {g g' : Lf → Prop}
theorem Cn.lf {S : List Int} {v : Lf} (h : g v) : Cn g S (.lf v) := by cases S <;> exact h
theorem Cn.lf_of {S : List Int} {v : Lf} (h : Cn g S (.lf v)) : g v := by cases S <;> exact h
theorem Cn.skip {s : Int} {S : List Int} : ∀ {t : Tr}, Cn g S t → Cn g (s :: S) t
  | .lf _, h => .lf h.lf_of
  | .nd _ _ _, h => .inr h
theorem Cn.mono (hg : ∀ v, g v → g' v) : ∀ {S : List Int} {t : Tr}, Cn g S t → Cn g' S t
  | S, .lf v, h => .lf (hg v h.lf_of)
  | [], .nd _ _ _, h => h.elim
  | s :: S, .nd n y o, h => by
    rcases h with ⟨h1, h2, h3, h4⟩ | h
    · exact .inl ⟨h1, h2, Cn.mono hg h3, Cn.mono hg h4⟩
    · exact .inr (Cn.mono hg h)
theorem Cn.sub {S T : List Int} (st : S.Sublist T) : ∀ {t : Tr}, Cn g S t → Cn g T t := by
  induction st with
  | slnil => intro t h; exact h
  | cons a _ ih => intro t h; exact (ih h).skip
  | cons_cons a _ ih =>
    intro t h
    cases t with
    | lf v => exact .lf h.lf_of
    | nd n y o =>
      rcases h with ⟨h1, h2, h3, h4⟩ | h
      · exact .inl ⟨h1, h2, ih h3, ih h4⟩
      · exact .inr (ih h)
theorem Cn.mem : ∀ {S : List Int} {t : Tr}, Cn g S t → ∀ n ∈ t.nums, n ∈ S
  | _, .lf _, _, n, hn => by cases hn
  | [], .nd _ _ _, h, _, _ => h.elim
  | s :: S, .nd m y o, h, n, hn => by
    rcases h with ⟨h1, _, h3, h4⟩ | h
    · rcases List.mem_cons.mp hn with e | e
      · rw [e, h1]; exact List.mem_cons_self
      · rcases List.mem_append.mp e with e | e
        · exact List.mem_cons_of_mem _ (Cn.mem h3 n e)
        · exact List.mem_cons_of_mem _ (Cn.mem h4 n e)
    · exact List.mem_cons_of_mem _ (Cn.mem h n hn)
theorem Cn.dep_le : ∀ {S : List Int} {t : Tr}, Cn g S t → t.dep ≤ S.length
  | _, .lf _, _ => Nat.zero_le _
  | [], .nd _ _ _, h => h.elim
  | s :: S, .nd m y o, h => by
    rcases h with ⟨_, _, h3, h4⟩ | h
    · have a := Cn.dep_le h3
      have b := Cn.dep_le h4
      show max y.dep o.dep + 1 ≤ S.length + 1
      omega
    · exact Nat.le_succ_of_le (Cn.dep_le h)
theorem ev_out {r : Rho} {n : Int} {b : Bool} : ∀ {t : Tr}, n ∉ t.nums → t.ev (r.put n b) = t.ev r
  | .lf _, _ => rfl
  | .nd m y o, h => by
    have h1 : m ≠ n := fun e => h (by rw [e]; exact List.mem_cons_self)
    have h2 : n ∉ y.nums := fun e => h (List.mem_cons_of_mem _ (List.mem_append_left _ e))
    have h3 : n ∉ o.nums := fun e => h (List.mem_cons_of_mem _ (List.mem_append_right _ e))
    show (if (r.put n b) m = true then y.ev _ else o.ev _) = (if r m = true then y.ev r else o.ev r)
    rw [show (r.put n b) m = r m from if_neg h1, ev_out h2, ev_out h3]
theorem put_same {r : Rho} {n : Int} {b : Bool} : (r.put n b) n = b := if_pos rfl
theorem put_put {r : Rho} {n : Int} {b c : Bool} : (r.put n b).put n c = r.put n c := by
  funext m; unfold Rho.put; split <;> rfl
theorem put_self {r : Rho} {n : Int} : r.put n (r n) = r := by
  funext m; unfold Rho.put; split
  · rename_i e; rw [e]
  · rfl
/-- two forms that have the same values are one -/
theorem Cn.one : ∀ {S : List Int} {t t' : Tr}, Asc S → Cn g S t → Cn g' S t' → (∀ r : Rho, t.ev r = t'.ev r) → t = t'
  | [], .lf v, .lf v', _, _, _, e => by rw [show v = v' from e fun _ => true]
  | [], .nd _ _ _, _, _, h, _, _ => h.elim
  | [], .lf _, .nd _ _ _, _, _, h, _ => h.elim
  | s :: S, t, t', hS, h, h', e => by
    obtain ⟨hs, hS'⟩ := List.pairwise_cons.mp hS
    have sS : s ∉ S := fun z => absurd (hs s z) (by omega)
    -- what stands over S does not ask s
    have out : ∀ {g : Lf → Prop} {u : Tr} {r : Rho} {b : Bool}, Cn g S u → u.ev (r.put s b) = u.ev r := fun hu => ev_out fun z => sS (hu.mem s z)
    have split : ∀ {g : Lf → Prop} {u : Tr}, Cn g (s :: S) u → Cn g S u ∨ ∃ y o, u = .nd s y o ∧ y ≠ o ∧ Cn g S y ∧ Cn g S o := fun {g u} hu => by
      cases u with
      | lf v => exact .inl (.lf hu.lf_of)
      | nd n y o =>
        rcases hu with ⟨rfl, h2, h3, h4⟩ | hu
        · exact .inr ⟨y, o, rfl, h2, h3, h4⟩
        · exact .inl hu
    have top : ∀ {y o : Tr} {r : Rho} {b : Bool}, (Tr.nd s y o).ev (r.put s b) = if b = true then y.ev (r.put s b) else o.ev (r.put s b) := fun {y o r b} => by
      show (if (r.put s b) s = true then _ else _) = _
      rw [put_same]
    rcases split h with h | ⟨y, o, rfl, ne, hy, ho⟩
    · rcases split h' with h' | ⟨y', o', rfl, ne', hy', ho'⟩
      · exact Cn.one hS' h h' e
      · have a : t = y' := Cn.one hS' h hy' fun r => by
          have z := e (r.put s true)
          rw [out h, top, if_pos rfl, out hy'] at z
          exact z
        have b : t = o' := Cn.one hS' h ho' fun r => by
          have z := e (r.put s false)
          rw [out h, top, if_neg Bool.false_ne_true, out ho'] at z
          exact z
        exact absurd (a.symm.trans b) ne'
    · rcases split h' with h' | ⟨y', o', rfl, ne', hy', ho'⟩
      · have a : y = t' := Cn.one hS' hy h' fun r => by
          have z := e (r.put s true)
          rw [top, if_pos rfl, out hy, out h'] at z
          exact z
        have b : o = t' := Cn.one hS' ho h' fun r => by
          have z := e (r.put s false)
          rw [top, if_neg Bool.false_ne_true, out ho, out h'] at z
          exact z
        exact absurd (a.trans b.symm) ne
      · have a : y = y' := Cn.one hS' hy hy' fun r => by
          have z := e (r.put s true)
          rw [top, top, if_pos rfl, if_pos rfl, out hy, out hy'] at z
          exact z
        have b : o = o' := Cn.one hS' ho ho' fun r => by
          have z := e (r.put s false)
          rw [top, top, if_neg Bool.false_ne_true, if_neg Bool.false_ne_true, out ho, out ho'] at z
          exact z
        rw [a, b]
end

/-! ### what the program's defs make, by plain functions -/
def mkNd (n : Int) (y o : Tr) : Tr := if y = o then y else .nd n y o
theorem mkNd_ev {n : Int} {y o : Tr} {r : Rho} : (mkNd n y o).ev r = if r n = true then y.ev r else o.ev r := by
  unfold mkNd
  split
  · rename_i e
    rw [e]
    split <;> rfl
  · rfl
theorem mkNd_cn {g : Lf → Prop} {n : Int} {S : List Int} {y o : Tr} (hy : Cn g S y) (ho : Cn g S o) : Cn g (n :: S) (mkNd n y o) := by
  unfold mkNd
  split
  · exact hy.skip
  · rename_i ne
    exact .inl ⟨rfl, ne, hy, ho⟩
/-- the number at the top is no smaller -/
def Tr.from (n : Int) : Tr → Prop
  | .lf _ => True
  | .nd m _ _ => n ≤ m
/-- a case by a number that is at the top or above it -/
def caseTop (n : Int) (b : Bool) : Tr → Tr
  | .lf v => .lf v
  | .nd m y o => if m = n then (if b = true then y else o) else .nd m y o
theorem caseTop_nd (n : Int) (b : Bool) (m : Int) (y o : Tr) : caseTop n b (.nd m y o) = if m = n then (if b = true then y else o) else .nd m y o := rfl
def above (n : Int) (S : List Int) : List Int := S.filter fun m => decide (n < m)
theorem above_sub (n : Int) (S : List Int) : (above n S).Sublist S := List.filter_sublist
theorem above_asc {n : Int} {S : List Int} (h : Asc S) : Asc (above n S) := h.sublist (above_sub n S)
theorem above_cons {n s : Int} {S : List Int} (h : Asc (s :: S)) (hn : n ≤ s) : (n = s ∧ above n (s :: S) = S) ∨ (n < s ∧ above n (s :: S) = s :: S) := by
  obtain ⟨hs, hS⟩ := List.pairwise_cons.mp h
  have all : ∀ m, (∀ x ∈ S, m < x) → S.filter (fun x => decide (m < x)) = S := fun m hm => List.filter_eq_self.mpr fun x hx => decide_eq_true (hm x hx)
  unfold above
  rw [List.filter_cons]
  by_cases e : n = s
  · subst e
    rw [if_neg (by simp)]
    exact .inl ⟨rfl, all n hs⟩
  · have hlt : n < s := by omega
    rw [if_pos (decide_eq_true hlt), all n fun x hx => by have := hs x hx; omega]
    exact .inr ⟨hlt, rfl⟩
theorem Cn.above {g : Lf → Prop} {n : Int} : ∀ {S : List Int} {t : Tr}, Asc S → Cn g S t → (∀ m ∈ t.nums, n < m) → Cn g (above n S) t
  | S, .lf v, _, h, _ => .lf h.lf_of
  | [], .nd _ _ _, _, h, _ => h.elim
  | s :: S, .nd m y o, hS, h, hm => by
    obtain ⟨hs, hS'⟩ := List.pairwise_cons.mp hS
    have keep : n < s → Cor.above n (s :: S) = s :: S := fun hlt => by
      rcases above_cons hS (Int.le_of_lt hlt) with ⟨e, _⟩ | ⟨_, e⟩
      · omega
      · exact e
    rcases h with ⟨rfl, h2, h3, h4⟩ | h
    · rw [keep (hm m List.mem_cons_self)]
      exact .inl ⟨rfl, h2, h3, h4⟩
    · by_cases hlt : n < s
      · rw [keep hlt]
        exact .inr h
      · have z := Cn.above (n := n) hS' h hm
        unfold Cor.above at z ⊢
        rw [List.filter_cons, if_neg (by simpa using hlt)]
        exact z
/-- all numbers below the top of a form are greater -/
theorem Cn.below {g : Lf → Prop} : ∀ {S : List Int} {m : Int} {y o : Tr}, Asc S → Cn g S (.nd m y o) → m ∈ S ∧ y ≠ o ∧ Cn g (Cor.above m S) y ∧ Cn g (Cor.above m S) o
  | [], _, _, _, _, h => h.elim
  | s :: S, m, y, o, hS, h => by
    obtain ⟨hs, hS'⟩ := List.pairwise_cons.mp hS
    rcases h with ⟨rfl, h2, h3, h4⟩ | h
    · have e : Cor.above m (m :: S) = S := by
        rcases above_cons hS (Int.le_refl m) with ⟨_, e⟩ | ⟨l, _⟩
        · exact e
        · omega
      rw [e]
      exact ⟨List.mem_cons_self, h2, h3, h4⟩
    · obtain ⟨a, b, c, d⟩ := Cn.below hS' h
      have e : Cor.above m (s :: S) = Cor.above m S := by
        unfold Cor.above
        rw [List.filter_cons, if_neg (by have := hs m a; simp; omega)]
      rw [e]
      exact ⟨List.mem_cons_of_mem _ a, b, c, d⟩
theorem Cn.nums_above {g : Lf → Prop} {S : List Int} {n : Int} {t : Tr} (h : Cn g (Cor.above n S) t) : ∀ m ∈ t.nums, n < m := fun m hm => by
  have z := h.mem m hm
  exact of_decide_eq_true (List.mem_filter.mp z).2
theorem Cn.nums_from {g : Lf → Prop} {S : List Int} {n : Int} : ∀ {t : Tr}, Asc S → Cn g S t → t.from n → ∀ m ∈ t.nums, n ≤ m
  | .lf _, _, _, _, m, hm => by cases hm
  | .nd k y o, hS, h, hf, m, hm => by
    obtain ⟨_, _, hy, ho⟩ := Cn.below hS h
    have hf : n ≤ k := hf
    rcases List.mem_cons.mp hm with e | e
    · omega
    · rcases List.mem_append.mp e with e | e
      · have := hy.nums_above m e; omega
      · have := ho.nums_above m e; omega
theorem caseTop_cn {g : Lf → Prop} {S : List Int} {n : Int} {b : Bool} : ∀ {t : Tr}, Asc S → Cn g S t → t.from n → Cn g (Cor.above n S) (caseTop n b t)
  | .lf v, _, h, _ => .lf h.lf_of
  | .nd m y o, hS, h, hf => by
    rw [caseTop_nd]
    by_cases e : m = n
    · rw [if_pos e]
      subst e
      obtain ⟨_, _, hy, ho⟩ := Cn.below hS h
      cases b
      · exact ho
      · exact hy
    · rw [if_neg e]
      have hf : n ≤ m := hf
      refine Cn.above hS h fun k hk => ?_
      have := Cn.nums_from hS h (show (Tr.nd m y o).from m from Int.le_refl m) k hk
      omega
theorem caseTop_ev {g : Lf → Prop} {S : List Int} {n : Int} {b : Bool} {r : Rho} : ∀ {t : Tr}, Asc S → Cn g S t → t.from n → (caseTop n b t).ev r = t.ev (r.put n b)
  | .lf v, _, _, _ => rfl
  | .nd m y o, hS, h, hf => by
    obtain ⟨_, _, hy, ho⟩ := Cn.below hS h
    have hf : n ≤ m := hf
    have oy : n ∉ y.nums := fun z => by have := hy.nums_above n z; omega
    have oo : n ∉ o.nums := fun z => by have := ho.nums_above n z; omega
    rw [caseTop_nd]
    by_cases e : m = n
    · rw [if_pos e]
      subst e
      show _ = (if (r.put m b) m = true then y.ev _ else o.ev _)
      rw [put_same, ev_out oy, ev_out oo]
      cases b <;> rfl
    · rw [if_neg e]
      show _ = (if (r.put n b) m = true then y.ev _ else o.ev _)
      rw [ev_out oy, ev_out oo, show (r.put n b) m = r m from if_neg e]
      rfl
/-- two forms by the least number at their tops, put together again -/
theorem byLeast {r : Rho} {n : Int} {x y : Lf} {f : Rho → Lf} (hx : f (r.put n true) = x) (hy : f (r.put n false) = y) : f r = if r n = true then x else y := by
  by_cases h : r n = true
  · rw [if_pos h, ← hx, ← h, put_self]
  · rw [if_neg h, ← hy, ← Bool.eq_false_iff.mpr h, put_self]
end Cor

set_option Elab.async false
set_option linter.all false
set_option maxRecDepth 100000
set_option maxHeartbeats 1000000
/-! Trees on the heap. -/
namespace Cor
open PySem PySem.Spec PyProof.Rows L2
def Lf.v : Lf → V
  | .i n => .int n
  | .b v => .bl v
/-- the tree t stands at v -/
inductive Tv (H : Hp) : V → Tr → Prop
  | lf (v : Lf) : Tv H v.v (.lf v)
  | nd {a : Addr} {n : Int} {y o : V} {ty to : Tr} : H a = some (.tup [.int n, y, o]) → Tv H y ty → Tv H o to → Tv H (.ref a) (.nd n ty to)
theorem Tv.lf_of {H : Hp} {v : V} {l : Lf} (h : Tv H v (.lf l)) : v = l.v := by cases h; rfl
theorem Tv.nd_of {H : Hp} {v : V} {n : Int} {ty to : Tr} (h : Tv H v (.nd n ty to)) : ∃ a y o, v = .ref a ∧ H a = some (.tup [.int n, y, o]) ∧ Tv H y ty ∧ Tv H o to := by
  cases h with
  | nd h1 h2 h3 => exact ⟨_, _, _, rfl, h1, h2, h3⟩
/-- all that stood stands, but lists -/
def Kp (H H' : Hp) : Prop := ∀ b o, (∀ xs, o ≠ .lst xs) → H b = some o → H' b = some o
theorem Kp.refl {H : Hp} : Kp H H := fun _ _ _ e => e
theorem Kp.trans {H H1 H2 : Hp} (a : Kp H H1) (b : Kp H1 H2) : Kp H H2 := fun c o n e => b c o n (a c o n e)
theorem _root_.L2.Same.kp {H H' : Hp} (s : Same H H') : Kp H H' := fun b o _ e => s b o e
theorem SameBut.kp {H H' : Hp} {p : Addr} {xs : List V} (s : SameBut p H H') (hp : H p = some (.lst xs)) : Kp H H' := fun b o n e => s b o (fun z => by
  rw [z, hp] at e
  exact n xs (Option.some.inj e).symm) e
theorem Tv.kp {H H' : Hp} (k : Kp H H') : ∀ {t : Tr} {v : V}, Tv H v t → Tv H' v t
  | .lf _, _, h => by rw [h.lf_of]; exact .lf _
  | .nd n ty to, _, h => by
    obtain ⟨a, y, o, rfl, h1, h2, h3⟩ := h.nd_of
    exact .nd (k _ _ (fun _ z => by cases z) h1) (Tv.kp k h2) (Tv.kp k h3)
theorem Tv.same {H H' : Hp} (s : Same H H') {t : Tr} {v : V} (h : Tv H v t) : Tv H' v t := h.kp s.kp
def Lf.d : Lf → PyData
  | .i n => .int n
  | .b v => .bool v
def Tr.d : Tr → PyData
  | .lf v => v.d
  | .nd n y o => .tuple [.int n, y.d, o.d]
theorem Tv.dp {K : PySem.W.Frag} {H : Hp} : ∀ {t : Tr} {v : V}, Tv H v t → Dp K H v t.d
  | .lf (.i n), _, h => by rw [h.lf_of]; exact .int n
  | .lf (.b n), _, h => by rw [h.lf_of]; exact .bl n
  | .nd n ty to, _, h => by
    obtain ⟨a, y, o, rfl, h1, h2, h3⟩ := h.nd_of
    exact .tup (SqT.of h1) (.cons (.int n) (.cons (Tv.dp h2) (.cons (Tv.dp h3) .nil)))
theorem Tr.d_depth : ∀ t : Tr, t.d.depth = t.dep
  | .lf (.i _) => rfl
  | .lf (.b _) => rfl
  | .nd n y o => by
    show max 0 (max y.d.depth (max o.d.depth 0)) + 1 = max y.dep o.dep + 1
    rw [Tr.d_depth y, Tr.d_depth o]
    omega
theorem Tr.d_lay : ∀ t : Tr, t.d.canLay0 = true
  | .lf (.i _) => rfl
  | .lf (.b _) => rfl
  | .nd n y o => by
    show (PyData.canLay0 (.int n) && (y.d.canLay0 && (o.d.canLay0 && true))) = true
    rw [Tr.d_lay y, Tr.d_lay o]
    rfl
theorem Tr.shaped {t : Tr} (h : t.dep ≤ 64) : SeqAt.shaped t.d = true := by
  unfold SeqAt.shaped
  rw [t.d_lay, t.d_depth, decide_eq_true h]
  rfl
/-- its plain values are of the kind k (true: truths), below 2 ^ B -/
def Lg (k : Bool) (B : Nat) : Lf → Prop
  | .i n => k = false ∧ n.natAbs < 2 ^ B
  | .b _ => k = true
def Lk (k : Bool) : Lf → Prop
  | .i n => k = false
  | .b _ => k = true
theorem Lg.k {k : Bool} {B : Nat} : ∀ v, Lg k B v → Lk k v
  | .i _, h => h.1
  | .b _, h => h
theorem Lg.le {k : Bool} {B B' : Nat} (hb : B ≤ B') : ∀ v, Lg k B v → Lg k B' v
  | .i _, h => ⟨h.1, Nat.lt_of_lt_of_le h.2 (Nat.pow_le_pow_right (by decide) hb)⟩
  | .b _, h => h
def Tr.hom (k : Bool) : Tr → Prop
  | .lf v => Lk k v
  | .nd _ y o => y.hom k ∧ o.hom k
theorem Cn.hom {g : Lf → Prop} {k : Bool} (hg : ∀ v, g v → Lk k v) : ∀ {S : List Int} {t : Tr}, Cn g S t → t.hom k
  | _, .lf v, h => hg v h.lf_of
  | [], .nd _ _ _, h => h.elim
  | s :: S, .nd n y o, h => by
    rcases h with ⟨_, _, h3, h4⟩ | h
    · exact ⟨Cn.hom hg h3, Cn.hom hg h4⟩
    · exact Cn.hom hg h
theorem eqv_tr {k : Bool} : ∀ {t t' : Tr}, t.hom k → t'.hom k → PyData.eqv t.d t'.d = decide (t = t')
  | .lf (.i n), .lf (.i m), _, _ => by
    show (n == m) = _
    rw [Bool.eq_iff_iff]
    simp
  | .lf (.b n), .lf (.b m), _, _ => by
    show (n == m) = _
    rw [Bool.eq_iff_iff]
    simp
  | .lf (.i n), .lf (.b m), h, h' => by
    have a : k = false := h
    have b : k = true := h'
    rw [a] at b
    cases b
  | .lf (.b n), .lf (.i m), h, h' => by
    have a : k = true := h
    have b : k = false := h'
    rw [a] at b
    cases b
  | .lf (.i n), .nd _ _ _, _, _ => (decide_eq_false fun z => by cases z).symm
  | .lf (.b n), .nd _ _ _, _, _ => (decide_eq_false fun z => by cases z).symm
  | .nd _ _ _, .lf (.i n), _, _ => (decide_eq_false fun z => by cases z).symm
  | .nd _ _ _, .lf (.b n), _, _ => (decide_eq_false fun z => by cases z).symm
  | .nd n y o, .nd m y' o', h, h' => by
    show ((n == m) && (PyData.eqv y.d y'.d && (PyData.eqv o.d o'.d && true))) = _
    rw [eqv_tr h.1 h'.1, eqv_tr h.2 h'.2, Bool.eq_iff_iff]
    simp
end Cor

set_option Elab.async false
set_option linter.all false
set_option maxRecDepth 100000
set_option maxHeartbeats 1000000
namespace Law
open PySem PySem.Spec PyProof.Rows L2 Cor
/-! ### the class NoStart -/
def inClass (s : Stmt) (j : Nat) : Stmt := match s with
  | .ClassDef _ _ _ b _ _ _ _ _ _ _ => b.getD j (.Pass ⟨0, 0, 0, 0⟩)
  | _ => .Pass ⟨0, 0, 0, 0⟩
abbrev sNoStart : Stmt := inClass (topS 3) 0
theorem scNoStart : FnScope ["self", "row"] ["self", "row"] (defScope sNoStart) := ⟨rfl, rfl, rfl, by decide +kernel, rfl, by decide +kernel, by decide +kernel⟩
structure NsT (K : PySem.W.Frag) (mg : Str → Option Value) (S CN : Addr) (mc : Value) : Prop where
  mS : mg "StoreError" = some (.ref S)
  rdS : ClX.CRead K S mc
  vS : PySem.W.findCls K (.ref S) mc "__init__" = some (.val (.builtin "ValueError.__init__"))
  mN : mg "NoStart" = some (.ref CN)
  xN : Exn K CN "ValueError.__new__" "ValueError.__init__"
  fN : PySem.W.findIn K (.ref CN) "row" = some none
section
variable {P : Program} {w : World} {K : PySem.W.Frag} {mg : Str → Option Value} {base : Heap} {S CN : Addr} {mc : Value}
theorem ok_NoStart {f : Addr} {fd : FuncData} (F : Fun K "__init__" "NoStart.__init__" sNoStart f fd) (T : NsT K mg S CN mc) : FnOk P w K mg base CX0 1 f fd ["self", "row"] (spInit CN "row") := by
  refine F.ok scNoStart (fun vs H Q E h => ?_) (fun cdv A outer s H vs Q E hr h => ?_)
  · obtain ⟨a, v, rfl, _⟩ := h
    rfl
  · obtain ⟨a, v, rfl, ha, q⟩ := h
    refine ⟨_, pss_cons (ps_expr (pe_iniO rfl T.mS T.rdS T.vS (pa_cons (pv 0) (pa_cons pe_str pa_nil)))) (pss_one (ps_fld1 (pv 0) (pv 1))), ?_⟩
    refine ⟨_, rfl, a, CN, _, _, rfl, (by show 1 ≤ 1000; decide), T.xN, ha, ?_⟩
    exact ⟨_, rfl, _, rfl, a, CN, _, _, rfl, T.xN, T.fN, ha, fun dx hd hn => q dx hd hn⟩
end
/-! ### the rows of a beginning -/
abbrev Rw := List Str × Int × Str
def rowT (row : Str) : Option Rw := match Txt.split row " " with
  | [a, b, c, d] => if c = "at" ∧ nameB d = true then (match pathT a, numT b with | some p, some n => some (p, n, d) | _, _ => none) else none
  | _ => none
/-- a row behind these rows -/
def fits (found : List Rw) (r : Rw) : Prop := (r.1 = [] ↔ found = []) ∧ ∀ l, found.getLast? = some l → pathLe r.1 l.1 = false ∧ r.1.dropLast ∈ found.map (·.1)
instance (found : List Rw) (r : Rw) : Decidable (fits found r) := by
  unfold fits
  cases found.getLast? with
  | none => exact decidable_of_iff (r.1 = [] ↔ found = []) ⟨fun h => ⟨h, fun l z => by cases z⟩, fun h => h.1⟩
  | some l => exact decidable_of_iff ((r.1 = [] ↔ found = []) ∧ pathLe r.1 l.1 = false ∧ r.1.dropLast ∈ found.map (·.1)) ⟨fun h => ⟨h.1, fun l' z => by cases z; exact h.2⟩, fun h => ⟨h.1, h.2 l rfl⟩⟩
def readRows : List Str → List Rw → Nat ⊕ List Rw
  | [], found => .inr found
  | row :: rest, found => match rowT row with
    | some r => if fits found r then readRows rest (found ++ [r]) else .inl found.length
    | none => .inl found.length
/-- a row stands at v -/
def RowAt (H : Hp) (v : V) (r : Rw) : Prop := ∃ t pa, v = .ref t ∧ H t = some (.tup [.ref pa, .int r.2.1, .str r.2.2]) ∧ H pa = some (.tup (r.1.map V.str))
inductive RowsAt (H : Hp) : List V → List Rw → Prop
  | nil : RowsAt H [] []
  | cons {v : V} {vs : List V} {r : Rw} {rs : List Rw} : RowAt H v r → RowsAt H vs rs → RowsAt H (v :: vs) (r :: rs)
theorem RowAt.kp {H H' : Hp} (k : Kp H H') {v : V} {r : Rw} (h : RowAt H v r) : RowAt H' v r := let ⟨t, pa, e, h1, h2⟩ := h; ⟨t, pa, e, k _ _ (fun _ z => by cases z) h1, k _ _ (fun _ z => by cases z) h2⟩
theorem RowsAt.kp {H H' : Hp} (k : Kp H H') {vs : List V} {rs : List Rw} (h : RowsAt H vs rs) : RowsAt H' vs rs := by
  induction h with
  | nil => exact .nil
  | cons a _ ih => exact .cons (a.kp k) ih
theorem RowsAt.snoc {H : Hp} {vs : List V} {rs : List Rw} {v : V} {r : Rw} (h : RowsAt H vs rs) (a : RowAt H v r) : RowsAt H (vs ++ [v]) (rs ++ [r]) := by
  induction h with
  | nil => exact .cons a .nil
  | cons b _ ih => exact .cons b ih
theorem RowsAt.len {H : Hp} {vs : List V} {rs : List Rw} (h : RowsAt H vs rs) : vs.length = rs.length := by
  induction h with
  | nil => rfl
  | cons _ _ ih => rw [List.length_cons, List.length_cons, ih]
theorem RowsAt.get {H : Hp} {vs : List V} {rs : List Rw} (h : RowsAt H vs rs) {i : Nat} {v : V} (hv : vs[i]? = some v) : ∃ r, rs[i]? = some r ∧ RowAt H v r := by
  induction h generalizing i with
  | nil => cases hv
  | @cons u us r rs a _ ih =>
    cases i with
    | zero => cases hv; exact ⟨r, rfl, a⟩
    | succ i => exact ih hv
theorem RowsAt.at {H : Hp} {vs : List V} {rs : List Rw} (h : RowsAt H vs rs) {i : Nat} {r : Rw} (hr : rs[i]? = some r) : ∃ v, vs[i]? = some v ∧ RowAt H v r := by
  induction h generalizing i with
  | nil => cases hr
  | @cons u us r' rs a _ ih =>
    cases i with
    | zero => cases hr; exact ⟨u, rfl, a⟩
    | succ i => exact ih hr
/-- paths stand at vs -/
def PathAt (H : Hp) (v : V) (ps : List Str) : Prop := ∃ a, v = .ref a ∧ H a = some (.tup (ps.map V.str))
inductive PathsAt (H : Hp) : List V → List (List Str) → Prop
  | nil : PathsAt H [] []
  | cons {v : V} {vs : List V} {r : List Str} {rs : List (List Str)} : PathAt H v r → PathsAt H vs rs → PathsAt H (v :: vs) (r :: rs)
theorem PathAt.kp {H H' : Hp} (k : Kp H H') {v : V} {r : List Str} (h : PathAt H v r) : PathAt H' v r := let ⟨a, e, h1⟩ := h; ⟨a, e, k _ _ (fun _ z => by cases z) h1⟩
theorem PathsAt.kp {H H' : Hp} (k : Kp H H') {vs : List V} {rs : List (List Str)} (h : PathsAt H vs rs) : PathsAt H' vs rs := by
  induction h with
  | nil => exact .nil
  | cons a _ ih => exact .cons (a.kp k) ih
theorem PathsAt.snoc {H : Hp} {vs : List V} {rs : List (List Str)} {v : V} {r : List Str} (h : PathsAt H vs rs) (a : PathAt H v r) : PathsAt H (vs ++ [v]) (rs ++ [r]) := by
  induction h with
  | nil => exact .cons a .nil
  | cons b _ ih => exact .cons b ih
theorem PathsAt.len {H : Hp} {vs : List V} {rs : List (List Str)} (h : PathsAt H vs rs) : vs.length = rs.length := by
  induction h with
  | nil => rfl
  | cons _ _ ih => rw [List.length_cons, List.length_cons, ih]
theorem PathsAt.dp {K : PySem.W.Frag} {H : Hp} {vs : List V} {rs : List (List Str)} (h : PathsAt H vs rs) : DpAll K H vs (rs.map pathD) := by
  induction h with
  | nil => exact .nil
  | cons a _ ih =>
    obtain ⟨b, rfl, e⟩ := a
    exact .cons (.tup (SqT.of e) (dp_strs _)) ih
theorem path_names {x : Str} {ns : List Str} (h : pathT x = some ns) : ∀ n ∈ ns, nameB n = true ∧ ∀ c ∈ n.cps.toList, c ∈ x.cps.toList := by
  unfold pathT at h
  split at h
  · cases h
    exact fun n hn => nomatch hn
  · unfold namesOf at h
    split at h
    · cases h
    · rename_i first names hs
      split at h
      · rename_i hc
        cases h
        intro n hn
        exact ⟨List.all_eq_true.mp hc.2.2 n hn, (split_mem one_slash (by rw [hs]; exact List.mem_cons_of_mem _ hn)).2.1⟩
      · cases h
theorem any_path (d : List Str) (pss : List (List Str)) : ((pss.map pathD).any fun z => PyData.eqv z (pathD d)) = decide (d ∈ pss) := by
  induction pss with
  | nil => rfl
  | cons p pss ih =>
    rw [List.map_cons, List.any_cons, ih, eqv_path]
    by_cases h : p = d
    · subst h
      rw [decide_eq_true rfl, Bool.true_or, decide_eq_true List.mem_cons_self]
    · rw [decide_eq_false h, Bool.false_or]
      by_cases h2 : d ∈ pss
      · rw [decide_eq_true h2, decide_eq_true (List.mem_cons_of_mem _ h2)]
      · rw [decide_eq_false h2, decide_eq_false (fun z => (List.mem_cons.mp z).elim (fun e => h e.symm) h2)]
theorem cut_last (ns : List Str) : cutV (ns.map V.str) none (some (-1)) = ns.dropLast.map V.str := by
  unfold cutV
  rw [HT.sIx_none, List.drop_zero, Nat.sub_zero]
  show (ns.map V.str).take ((-1 : Int) + ((ns.map V.str).length : Int)).toNat = _
  rw [List.length_map, show ((-1 : Int) + (ns.length : Int)).toNat = ns.length - 1 by omega, ← List.map_take, List.dropLast_eq_take]
theorem atI_last {α : Type} {xs : List α} {v : α} (h : xs[xs.length - 1]? = some v) : atI xs (-1) = some v := by
  have hlt := (List.getElem?_eq_some_iff.mp h).1
  unfold atI ixN
  rw [if_neg (by decide), if_pos (by omega)]
  show xs[((-1 : Int) + (xs.length : Int)).toNat]? = some v
  rw [show ((-1 : Int) + (xs.length : Int)).toNat = xs.length - 1 by omega]
  exact h
abbrev sStart : Stmt := topS 19
theorem scStart : FnScope ["text", "found", "at", "row", "words", "path", "worth", "ahead", "much", "house"] ["text"] (defScope sStart) := ⟨rfl, rfl, rfl, by decide +kernel, rfl, by decide +kernel, by decide +kernel⟩
def spStart (CN : Addr) : Sp := fun vs H Q E => ∃ x : Str, vs = [.str x] ∧ x.length ≤ 10000 ∧ A7 x ∧ (∀ n, readRows (Txt.split x "\n") [] = .inl n → ∀ d H', Same H H' → H' d = some (.xd [("row", .int (n : Nat))]) → E (.ref CN) (some d) H') ∧
  (∀ rs, readRows (Txt.split x "\n") [] = .inr rs → ∀ L us H', Same H H' → H' L = some (.lst us) → RowsAt H' us rs → Q (.ref L) H')
section
variable {P : Program} {w : World} {K : PySem.W.Frag} {mg : Str → Option Value} {base : Heap} {CN : Addr}
theorem ok_start {f : Addr} {fd : FuncData} (F : Fun K "start_rows" "start_rows" sStart f fd) (T : GloP K mg) (nw : Xcl P w K mg base "NoStart" CN "row") (dn : Df P w K mg base "is_name" 1 ["text"] spIsName) (dp : Df P w K mg base "path_of" 2 ["text"] spPathOf) (du : Df P w K mg base "number_of" 3 ["text"] spNumOf) : FnOk P w K mg base (L2.CX P w) 4 f fd ["text"] (spStart CN) := by
  refine F.okX scStart (k := 3) (fun vs H Q E h => ?_) (fun cdv A outer s H vs Q E hr h => ?_)
  · obtain ⟨x, rfl, _⟩ := h
    rfl
  · obtain ⟨x, rfl, hl, h7, qE, qR⟩ := h
    have tk : Takes (cxOf (L2.CX P w) P w K mg base ["text", "found", "at", "row", "words", "path", "worth", "ahead", "much", "house"] "start_rows" (defScope sStart) f cdv A outer s H E) (fun cls d _ H' => E cls d H') := takes_of rfl rfl rfl rfl
    refine ⟨_, (pss_cons (ps_set (i := 1) scStart.nd rfl (Or.inl rfl) (pe_lst pa_nil))
      (pss_cons (ps_for (passes_of rfl) rfl (pi_enum (by rfl) T.enumerate (pa_cons (pe_split (pv 0) pe_str) pa_nil)) (pg_tup rfl (pgs_cons (pg_name (i := 2) scStart.nd rfl (Or.inl rfl)) (pgs_cons (pg_name (i := 3) scStart.nd rfl (Or.inl rfl)) pgs_nil))) (pss_cons (ps_set (i := 4) scStart.nd rfl (Or.inl rfl) (pe_split (pv 3) pe_str))
      (pss_cons (ps_if (PW.pt (pw_or (pt_cmpR op_ne (pe_callB call_len_seq (by rfl) T.len PySem.boot_len (pa_cons (pv 4) pa_nil)) pe_int (nomark _)) (pw_or (pt_cmpR op_ne (pe_ix ix_list (pv 4) pe_int (fun _ _ => rfl)) pe_str (nomark _)) (pw_or1 (pt_not (pt_val (pe_df (E := E0) dn (hr.mono (by omega)) (by rfl) (pa_cons (pe_ix ix_list (pv 4) pe_int (fun _ _ => rfl)) pa_nil)))))))) (pss_one (ps_raise rfl tk (pmk_x nw (hr.mono (by omega)) (by rfl) (pv 2)))) pss_nil)
      (pss_cons (ps_par (i := 5) (j := 6) (by rfl) scStart.nd rfl rfl (by decide) rfl rfl (pa_cons (pe_df (E := E0) dp (hr.mono (by omega)) (by rfl) (pa_cons (pe_ix ix_list (pv 4) pe_int (fun _ _ => rfl)) pa_nil)) (pa_cons (pe_df (E := E0) du hr (by rfl) (pa_cons (pe_ix ix_list (pv 4) pe_int (fun _ _ => rfl)) pa_nil)) pa_nil)) (by rfl))
      (pss_cons (ps_if (PW.pt (pw_or (pt_cmp (pc_isN (pv 5)) rfl) (pw_or (pt_cmp (pc_isN (pv 6)) rfl) (pw_or1 (pt_cmpR op_ne (pe_cmpR (op_eqD hr.units) (pv 5) (pe_tup pa_nil) (nomark _)) (pe_cmpR op_eq (pv 2) pe_int (nomark _)) (nomark _)))))) (pss_one (ps_raise rfl tk (pmk_x nw (hr.mono (by omega)) (by rfl) (pv 2)))) pss_nil)
      (pss_cut (ps_if (PW.pt (pw_and (pt_cmpR op_gt (pv 2) pe_int (nomark _)) (pw_and1 (PW.pt (pw_or (pt_cmpR (op_leTS hr.units0) (pv 5) (pe_ix ix_tup (pe_ix ix_list (pv 1) (pe_un un_neg pe_int) (fun _ _ => rfl)) pe_int (fun _ _ => rfl)) (nomark _)) (pw_or1 (pt_cmpR (op_notInD (u65 hr)) (pe_slice sl_tupA (pv 5) po_none (po_some (pe_un un_neg pe_int))) (pe_lc (own := [("ahead", 7), ("much", 8), ("house", 9)]) (g := gTup K 3 (gCons (gName 7) (gCons (gName 8) (gCons (gName 9) gNil)))) (by rfl) scStart.nd (pi_list (pv 1)) (blkOk_by (own := [("ahead", 7), ("much", 8), ("house", 9)]) (N := ["text", "found", "at", "row", "words", "path", "worth", "ahead", "much", "house"]) (sc := defScope sStart) (by decide +kernel)) (fun _ _ _ _ _ => (pg_tup (n := 3) rfl (pgs_cons (pg_name (i := 7) scStart.nd rfl (Or.inl rfl)) (pgs_cons (pg_name (i := 8) scStart.nd rfl (Or.inl rfl)) (pgs_cons (pg_name (i := 9) scStart.nd rfl (Or.inl rfl)) pgs_nil))))) (fun _ _ _ _ _ => pts_nil) (fun _ _ _ _ _ => (pv 7))) (by rfl)))))))) (pss_one (ps_raise rfl tk (pmk_x nw (hr.mono (by omega)) (by rfl) (pv 2)))) pss_nil)
      (pss_one (ps_expr (pe_bm PySem.F.plainAttrs_list PySem.F.slot_list_append PySem.F.type_list_append mt_append (pv 1) (pa_cons (pe_tup (pa_cons (pv 5) (pa_cons (pv 6) (pa_cons (pe_ix ix_list (pv 4) pe_int (fun _ _ => rfl)) pa_nil)))) pa_nil))))))))))
      (pss_one (ps_ret (pv 1))))), ?_⟩
    have hsz : x.length + 2 ≤ sizeLine := Nat.le_trans (show x.length + 2 ≤ 10002 by omega) (by decide)
    refine ⟨(by show 0 ≤ sizeLine; decide), fun L nL => ?_⟩
    have s1 := same_upd (o := .lst []) nL
    refine ⟨_, rfl, ⟨_, rfl⟩, x, "\n", rfl, rfl, by decide +kernel, hsz, fun Z nZ => ?_⟩
    generalize hrows : Txt.split x "\n" = rows at qE qR ⊢
    have cnt : rows.length ≤ x.length + 1 := by rw [← hrows]; exact split_count one_line x
    have mem : ∀ p ∈ rows, p.length ≤ x.length ∧ A7 p := fun p hp => by
      rw [← hrows] at hp
      exact ⟨(split_mem one_line hp).1, fun c hc => h7 c ((split_mem one_line hp).2.1 c hc)⟩
    have s2 := same_upd (o := .lst (rows.map V.str)) nZ
    have nZL : Z ≠ L := fun z => by rw [z, upd_same] at nZ; cases nZ
    have eL1 : (upd (upd H L (.lst [])) Z (.lst (rows.map V.str))) L = some (.lst []) := s2 _ _ upd_same
    have eZ1 : (upd (upd H L (.lst [])) Z (.lst (rows.map V.str))) Z = some (.lst (rows.map V.str)) := upd_same
    have sH1 : Same H (upd (upd H L (.lst [])) Z (.lst (rows.map V.str))) := fun b o z => s2 b o (s1 b o z)
    generalize (upd (upd H L (.lst [])) Z (.lst (rows.map V.str))) = H1 at eL1 eZ1 sH1 ⊢
    refine ⟨Z, rows.map V.str, rfl, SqL.of eZ1, for_it (walk_enum (K := K) (a := Z) (xs := rows.map V.str)) (fun i σ H' => ∃ (us : List V) (rs : List Rw) (s2 s3 s4 s5 s6 s7 s8 s9 : Option V), σ = [some (.str x), some (.ref L), s2, s3, s4, s5, s6, s7, s8, s9] ∧ SameBut L H1 H' ∧ H' L = some (.lst us) ∧ RowsAt H' us rs ∧ rs.length = i ∧ (∀ r ∈ rs, ∀ n ∈ r.1, A7 n) ∧ readRows (rows.drop i) rs = readRows rows []) ?_ ?_ ?_ ?_⟩
    · exact ⟨[], [], _, _, _, _, _, _, _, _, rfl, fun _ _ _ z => z, eL1, .nil, rfl, (fun r hr => nomatch hr), by rw [List.drop_zero]⟩
    · rintro i σ H' _ ⟨us, rs, _, _, _, _, _, _, _, _, _, sb, _⟩
      exact SqL.of (sb _ _ nZL eZ1)
    · rintro i v σ H2 H2' hi ⟨us, rs, t2, t3, t4, t5, t6, t7, t8, t9, rfl, sb, eL, hR, rfl, hA, hrd⟩ ⟨T, ix, rowV, rfl, nT, rfl, hix, hrow⟩
      cases hix
      have hrow : (rows.map V.str)[rs.length]? = some rowV := hrow
      rw [List.getElem?_map] at hrow
      obtain ⟨row, hrw, rfl⟩ := Option.map_eq_some_iff.mp hrow
      obtain ⟨lrow, a7row⟩ := mem row (List.mem_of_getElem? hrw)
      have hdrop : rows.drop rs.length = row :: rows.drop (rs.length + 1) := by
        obtain ⟨hlt, e⟩ := List.getElem?_eq_some_iff.mp hrw
        rw [List.drop_eq_getElem_cons hlt, e]
      rw [hdrop] at hrd
      have sH2 : Same H H2 := fun b o z => sb b o (ne_of_none z nL) (sH1 b o z)
      have bad : readRows (row :: rows.drop (rs.length + 1)) rs = .inl rs.length → ∀ d H', Same H2 H' → H' d = some (.xd [("row", .int (rs.length : Nat))]) → E (.ref CN) (some d) H' := fun h d H' sx e => qE rs.length (by rw [← hrd, h]) d H' (fun b o z => sx b o (sH2 b o z)) e
      refine ⟨T, _, rfl, SqT.of upd_same, rfl, _, _, rfl, _, _, rfl, rfl, ?_⟩
      have hszr : row.length + 2 ≤ sizeLine := by omega
      refine ⟨_, rfl, ⟨_, rfl⟩, row, " ", rfl, rfl, by decide +kernel, hszr, fun W nW => ?_⟩
      generalize hws : Txt.split row " " = ws
      have wm : ∀ p ∈ ws, p.length ≤ x.length ∧ A7 p := fun p hp => by
        rw [← hws] at hp
        exact ⟨Nat.le_trans (split_mem one_blank hp).1 lrow, fun c hc => a7row c ((split_mem one_blank hp).2.1 c hc)⟩
      have q1 := same_upd (o := .tup [.int (rs.length : Nat), .str row]) nT
      have q2 := same_upd (o := .lst (ws.map V.str)) nW
      have s23 : Same H2 (upd (upd H2 T (.tup [.int (rs.length : Nat), .str row])) W (.lst (ws.map V.str))) := fun b o z => q2 b o (q1 b o z)
      have eW : (upd (upd H2 T (.tup [.int (rs.length : Nat), .str row])) W (.lst (ws.map V.str))) W = some (.lst (ws.map V.str)) := upd_same
      generalize (upd (upd H2 T (.tup [.int (rs.length : Nat), .str row])) W (.lst (ws.map V.str))) = H3 at s23 eW ⊢
      refine ⟨_, rfl, W, _, rfl, .inl (SqL.of eW), rfl, _, rfl, ?_⟩
      by_cases h4 : ws.length = 4
      · rw [show (!decide (V.int (((ws.map V.str).length : Nat) : Int) = V.int 4)) = false from by rw [List.length_map, h4]; rfl]
        obtain ⟨wa, wb, wc, wd, rfl⟩ : ∃ a b c d, ws = [a, b, c, d] := by
          match ws, h4 with
          | [a, b, c, d], _ => exact ⟨a, b, c, d, rfl⟩
        have rowE : rowT row = if wc = "at" ∧ nameB wd = true then (match pathT wa, numT wb with | some p, some n => some (p, n, wd) | _, _ => none) else none := by
          unfold rowT
          rw [hws]
        have no : rowT row = none → readRows (row :: rows.drop (rs.length + 1)) rs = .inl rs.length := fun h => by
          show (match rowT row with | some r => if fits rs r then readRows (rows.drop (rs.length + 1)) (rs ++ [r]) else .inl rs.length | none => .inl rs.length) = _
          rw [h]
        refine ⟨_, rfl, W, _, _, _, rfl, rfl, SqL.of eW, rfl, rfl, _, rfl, ?_⟩
        by_cases hc : wc = "at"
        · rw [show (!decide (V.str wc = V.str "at")) = false from by rw [hc, decide_eq_true rfl]; rfl]
          have lw : ∀ p ∈ [wa, wb, wc, wd], p.length ≤ 10000 := fun p hp => Nat.le_trans (wm p hp).1 hl
          refine ⟨_, rfl, W, _, _, _, rfl, rfl, SqL.of eW, rfl, wd, rfl, Nat.le_trans (lw wd (by simp)) (by decide), fun H4 s34 => ⟨_, rfl, ?_⟩⟩
          have s24 : Same H2 H4 := fun b o z => s34 b o (s23 b o z)
          have eW4 := s34 _ _ eW
          by_cases hn : nameB wd = true
          · rw [hn]
            have rowE2 : rowT row = (match pathT wa, numT wb with | some p, some n => some (p, n, wd) | _, _ => none) := by rw [rowE, if_pos ⟨hc, hn⟩]
            refine ⟨_, rfl, W, _, _, _, rfl, rfl, SqL.of eW4, rfl, wa, rfl, lw wa (by simp), (wm wa (by simp)).2, fun hp H5 s45 => ?_, fun ns hp pa H5 s45 ep => ?_⟩
            · refine ⟨_, rfl, W, _, _, _, rfl, rfl, SqL.of (s45 _ _ eW4), rfl, wb, rfl, Nat.le_trans (lw wb (by simp)) (by decide), fun H6 s56 => ?_⟩
              refine ⟨_, _, rfl, _, rfl, _, rfl, iteT ?_⟩
              refine ⟨_, rfl, fun d H' sx nd hd => bad (no ?_) d H' (fun b o z => sx b o (s56 b o (s45 b o (s24 b o z)))) hd⟩
              rw [rowE2, hp]
            · refine ⟨_, rfl, W, _, _, _, rfl, rfl, SqL.of (s45 _ _ eW4), rfl, wb, rfl, Nat.le_trans (lw wb (by simp)) (by decide), fun H6 s56 => ?_⟩
              have s26 : Same H2 H6 := fun b o z => s56 b o (s45 b o (s24 b o z))
              have ep6 := s56 _ _ ep
              refine ⟨_, _, rfl, _, rfl, _, rfl, iteF ?_⟩
              cases hnb : numT wb with
              | none =>
                refine ⟨_, rfl, _, rfl, iteT ?_⟩
                refine ⟨_, rfl, fun d H' sx nd hd => bad (no ?_) d H' (fun b o z => sx b o (s26 b o z)) hd⟩
                rw [rowE2, hp, hnb]
              | some nw =>
                have rowE3 : rowT row = some (ns, nw, wd) := by rw [rowE2, hp, hnb]
                have no2 : ¬ fits rs (ns, nw, wd) → readRows (row :: rows.drop (rs.length + 1)) rs = .inl rs.length := fun h => by
                  show (match rowT row with | some r => if fits rs r then readRows (rows.drop (rs.length + 1)) (rs ++ [r]) else .inl rs.length | none => .inl rs.length) = _
                  rw [rowE3]
                  exact if_neg h
                refine ⟨_, rfl, _, rfl, iteF ?_⟩
                refine ⟨_, rfl, (by show 0 ≤ sizeLine; decide), fun p0 n0 => ?_⟩
                have s67 := same_upd (o := .tup []) n0
                have a7n : ∀ n ∈ ns, A7 n := fun n hn c hc => (wm wa (by simp)).2 c ((path_names hp n hn).2 c hc)
                refine ⟨pathD ns, pathD [], .tup (SqT.of (s67 _ _ ep6)) (dp_strs ns), .tup (SqT.of upd_same) .nil, shaped_path a7n, shaped_path (fun n hn => nomatch hn), _, rfl, rfl, rfl, _, rfl, ?_⟩
                rw [eqv_path, show decide (V.int ((rs.length : Nat) : Int) = V.int 0) = decide (rs = []) from by
                  cases rs with
                  | nil => rfl
                  | cons r rs => rw [decide_eq_false (fun z => by have := V.int.inj z; rw [List.length_cons] at this; omega), decide_eq_false (by simp)]]
                have s27 : Same H2 (upd H6 p0 (.tup [])) := fun b o z => s67 b o (s26 b o z)
                have ep7 := s67 _ _ ep6
                have eW7 := s67 _ _ (s56 _ _ (s45 _ _ eW4))
                generalize (upd H6 p0 (.tup [])) = H7 at s27 ep7 eW7 ⊢
                by_cases hroot : (ns = [] ↔ rs = [])
                · rw [show (!decide (V.bl (decide (ns = [])) = V.bl (decide (rs = [])))) = false from by
                    rw [decide_eq_decide.mpr hroot, decide_eq_true rfl]; rfl]
                  refine ⟨fun σ' H' => σ' = [some (.str x), some (.ref L), some (.int (rs.length : Nat)), some (.str row), some (.ref W), some (.ref pa), some (.int nw), t7, t8, t9] ∧ Same H7 H' ∧ fits rs (ns, nw, wd), ?_, ?_⟩
                  · refine ⟨_, rfl, _, _, rfl, rfl, _, rfl, ?_⟩
                    cases hlast : rs.getLast? with
                    | none =>
                      have rn : rs = [] := List.getLast?_eq_none_iff.mp hlast
                      subst rn
                      exact ⟨rfl, fun _ _ z => z, hroot, fun l z => by cases z⟩
                    | some l =>
                      have hl1 : rs[rs.length - 1]? = some l := by rw [← List.getLast?_eq_getElem?]; exact hlast
                      have rpos : 0 < rs.length := by have := (List.getElem?_eq_some_iff.mp hl1).1; omega
                      rw [show decide ((0 : Int) < ((rs.length : Nat) : Int)) = true from decide_eq_true (by omega)]
                      have k27 : Kp H2 H7 := Same.kp s27
                      have hR7 := hR.kp k27
                      obtain ⟨v, hv, t, pb, rfl, et, epb⟩ := hR7.at hl1
                      rw [← hR.len] at hv
                      refine ⟨_, rfl, _, rfl, _, rfl, L, us, _, _, rfl, rfl, SqL.of (s27 _ _ eL), atI_last hv, t, _, _, _, rfl, rfl, SqT.of et, rfl, ?_⟩
                      refine ⟨pa, pb, ns, l.1, rfl, rfl, SqT.of ep7, SqT.of epb, _, rfl, ?_⟩
                      cases hle : pathLe ns l.1 with
                      | true =>
                        refine iteT ⟨_, rfl, fun d H' sx nd hd => bad (no2 fun z => ?_) d H' (fun b o z => sx b o (s27 b o z)) hd⟩
                        have z1 := (z.2 l hlast).1
                        rw [hle] at z1
                        cases z1
                      | false =>
                        have nne : ns ≠ [] := fun z => by
                          have := hroot.mp z
                          rw [this] at rpos
                          exact absurd rpos (Nat.lt_irrefl _)
                        have npos : 0 < ns.length := List.length_pos_iff.mpr nne
                        refine iteF ⟨_, rfl, _, rfl, _, rfl, pa, _, rfl, SqT.of ep7, fun hw => ?_, fun _ p1 np1 => ?_⟩
                        · have hw2 : ((-1 : Int) + ((ns.map V.str).length : Int)).toNat = (ns.map V.str).length := hw.2
                          rw [List.length_map] at hw2
                          omega
                        rw [cut_last]
                        have s78 := same_upd (o := .tup (ns.dropLast.map V.str)) np1
                        have e81 : (upd H7 p1 (.tup (ns.dropLast.map V.str))) p1 = some (.tup (ns.dropLast.map V.str)) := upd_same
                        generalize (upd H7 p1 (.tup (ns.dropLast.map V.str))) = H8 at s78 e81 ⊢
                        have s28 : Same H2 H8 := fun b o z => s78 b o (s27 b o z)
                        have hR8 := hR.kp (Same.kp s28)
                        have eL8 := s28 _ _ eL
                        refine ⟨_, rfl, L, rfl, ⟨_, SqL.of eL8⟩, fun D nD => lc_list (xs := us) (fun i H' => Same H8 H' ∧ ∃ pvs, H' D = some (.lst pvs) ∧ PathsAt H' pvs ((rs.take i).map (·.1))) ?_ ?_ ?_ ?_⟩
                        · exact ⟨same_upd nD, [], upd_same, .nil⟩
                        · rintro i H' _ ⟨sx, _⟩
                          exact SqL.of (sx _ _ eL8)
                        · rintro i v H' hv ⟨sx, pvs, eD, hP⟩
                          obtain ⟨r, hr, t', pa', rfl, et', epa'⟩ := hR8.get hv
                          refine ⟨t', _, rfl, SqT.of (sx _ _ et'), rfl, _, _, rfl, _, _, rfl, _, _, rfl, rfl, rfl, _, rfl, pvs, eD, ?_, fun b o z => ?_, pvs ++ [.ref pa'], upd_same, ?_⟩
                          · rw [hP.len, List.length_map, List.length_take]
                            have : rs.length ≤ rows.length := by
                              have := (List.getElem?_eq_some_iff.mp hrw).1
                              omega
                            exact Nat.lt_of_le_of_lt (Nat.le_trans (Nat.min_le_right _ _) (Nat.le_trans this cnt)) (Nat.lt_of_le_of_lt (show x.length + 1 ≤ 10001 by omega) (by decide))
                          · rw [upd_ne (ne_of_none z nD)]
                            exact sx b o z
                          · have kx : Kp H' (upd H' D (.lst (pvs ++ [.ref pa']))) := fun b o n z => by
                              rw [upd_ne (fun e => by rw [e, eD] at z; exact n _ (Option.some.inj z).symm)]
                              exact z
                            rw [List.take_succ, hr, List.map_append]
                            exact (hP.kp kx).snoc ⟨pa', rfl, kx _ _ (fun _ z => by cases z) (sx _ _ epa')⟩
                        · rintro H9 ⟨sx, pvs, eD, hP⟩
                          rw [hR.len, List.take_length] at hP
                          have a7r : ∀ ps ∈ rs.map (·.1), ∀ n ∈ ps, A7 n := fun ps hps => by
                            obtain ⟨r, hr, rfl⟩ := List.mem_map.mp hps
                            exact hA r hr
                          refine ⟨pathD ns.dropLast, (rs.map (·.1)).map pathD, .tup (SqT.of (sx _ _ e81)) (dp_strs _), .lst (SqL.of eD) hP.dp, shaped_path (fun n hn => a7n n (List.dropLast_subset _ hn)), shaped_paths a7r, _, rfl, ?_⟩
                          rw [any_path]
                          have s29 : Same H2 H9 := fun b o z => sx b o (s28 b o z)
                          by_cases hin : ns.dropLast ∈ rs.map (·.1)
                          · rw [decide_eq_true hin]
                            exact ⟨rfl, fun b o z => sx b o (s78 b o z), hroot, fun l' z => by cases hlast.symm.trans z; exact ⟨hle, hin⟩⟩
                          · rw [decide_eq_false hin]
                            refine ⟨_, rfl, fun d H' sy nd hd => bad (no2 fun z => ?_) d H' (fun b o z => sy b o (s29 b o z)) hd⟩
                            exact hin (z.2 l hlast).2
                  · rintro σ' H8 ⟨rfl, s78, hf⟩
                    have s28 : Same H2 H8 := fun b o z => s78 b o (s27 b o z)
                    have eW8 := s78 _ _ eW7
                    have eL8 := s28 _ _ eL
                    have ep8 := s78 _ _ ep7
                    refine ⟨_, rfl, .inl ⟨rfl, _, SqL.of eL8⟩, _, rfl, _, rfl, _, rfl, W, _, _, _, rfl, rfl, SqL.of eW8, rfl, (by show 3 ≤ sizeLine; decide), fun t nt => ?_⟩
                    have s89 := same_upd (o := .tup [.ref pa, .int nw, .str wd]) nt
                    have e9t : (upd H8 t (.tup [.ref pa, .int nw, .str wd])) t = some (.tup [.ref pa, .int nw, .str wd]) := upd_same
                    have s29 : Same H2 (upd H8 t (.tup [.ref pa, .int nw, .str wd])) := fun b o z => s89 b o (s28 b o z)
                    have ep9 := s89 _ _ ep8
                    generalize (upd H8 t (.tup [.ref pa, .int nw, .str wd])) = H9 at e9t s29 ep9 ⊢
                    have eL9 := s29 _ _ eL
                    have rl : rs.length < rows.length := (List.getElem?_eq_some_iff.mp hrw).1
                    refine ⟨L, us, _, rfl, rfl, eL9, ?_, ?_⟩
                    · rw [hR.len]
                      exact Nat.lt_of_lt_of_le (Nat.lt_of_lt_of_le rl cnt) (Nat.le_trans (show x.length + 1 ≤ 10001 by omega) (by decide))
                    have kx : Kp H9 (upd H9 L (.lst (us ++ [.ref t]))) := fun b o n z => by
                      rw [upd_ne (fun e => by rw [e, eL9] at z; exact n _ (Option.some.inj z).symm)]
                      exact z
                    refine ⟨us ++ [.ref t], rs ++ [(ns, nw, wd)], _, _, _, _, _, _, _, _, rfl, fun b o nb z => ?_, upd_same, ?_, by rw [List.length_append, List.length_singleton], fun r hr => ?_, ?_⟩
                    · rw [upd_ne nb]
                      exact s29 b o (sb b o nb z)
                    · exact ((hR.kp (Same.kp s29)).kp kx).snoc ⟨t, pa, rfl, kx _ _ (fun _ z => by cases z) e9t, kx _ _ (fun _ z => by cases z) ep9⟩
                    · rcases List.mem_append.mp hr with hr | hr
                      · exact hA r hr
                      · rw [List.mem_singleton.mp hr]
                        exact a7n
                    · rw [← hrd]
                      show _ = (match rowT row with | some r => if fits rs r then readRows (rows.drop (rs.length + 1)) (rs ++ [r]) else .inl rs.length | none => .inl rs.length)
                      rw [rowE3]
                      exact (if_pos hf).symm
                · rw [show (!decide (V.bl (decide (ns = [])) = V.bl (decide (rs = [])))) = true from by
                    rw [decide_eq_false (fun z => hroot (decide_eq_decide.mp (V.bl.inj z)))]; rfl]
                  exact ⟨_, rfl, fun d H' sx nd hd => bad (no2 fun z => hroot z.1) d H' (fun b o z => sx b o (s27 b o z)) hd⟩
          · rw [show nameB wd = false from by cases h : nameB wd with | true => exact absurd h hn | false => rfl]
            refine ⟨_, rfl, fun d H' sx nd hd => bad (no ?_) d H' (fun b o z => sx b o (s24 b o z)) hd⟩
            rw [rowE, if_neg (fun z => hn z.2)]
        · rw [show (!decide (V.str wc = V.str "at")) = true from by rw [decide_eq_false (fun z => hc (V.str.inj z))]; rfl]
          refine ⟨_, rfl, fun d H' sx nd hd => bad (no ?_) d H' (fun b o z => sx b o (s23 b o z)) hd⟩
          rw [rowE, if_neg (fun z => hc z.1)]
      · rw [show (!decide (V.int (((ws.map V.str).length : Nat) : Int) = V.int 4)) = true from by
          rw [List.length_map, decide_eq_false (fun z => h4 (by have := V.int.inj z; omega))]; rfl]
        refine ⟨_, rfl, fun d H' sx nd hd => bad ?_ d H' (fun b o z => sx b o (s23 b o z)) hd⟩
        show (match rowT row with | some r => if fits rs r then readRows (rows.drop (rs.length + 1)) (rs ++ [r]) else .inl rs.length | none => .inl rs.length) = _
        rw [show rowT row = none from by
          unfold rowT
          rw [hws]
          match ws, h4 with
          | [], _ => rfl
          | [_], _ => rfl
          | [_, _], _ => rfl
          | [_, _, _], _ => rfl
          | [_, _, _, _], h => exact absurd rfl h
          | _ :: _ :: _ :: _ :: _ :: _, _ => rfl]
    · rintro σ H' ⟨us, rs, _, _, _, _, _, _, _, _, rfl, sb, eL, hR, hlen, _, hrd⟩
      rw [List.length_map] at hlen hrd
      rw [List.drop_of_length_le (Nat.le_refl _)] at hrd
      exact ⟨_, rfl, qR rs hrd.symm L us H' (fun b o z => sb b o (ne_of_none z nL) (sH1 b o z)) eL hR⟩
end
end Law

set_option Elab.async false
set_option linter.all false
set_option maxRecDepth 100000
set_option maxHeartbeats 1000000
/-! dicts whose keys are (0, path). -/
namespace Cor
open PySem PySem.Spec PyProof.Rows L2
/-- the key of a room -/
def nkey (p : List Str) : NestedKey := .tup [.num 0, .tup (p.map .text)]
theorem nkey_inj {p q : List Str} (h : nkey p = nkey q) : p = q := by
  unfold nkey at h
  have h1 := NestedKey.tup.inj h
  have h2 := NestedKey.tup.inj (List.cons.inj (List.cons.inj h1).2).1
  have key : ∀ p q : List Str, p.map NestedKey.text = q.map NestedKey.text → p = q := by
    intro p
    induction p with
    | nil => intro q h; cases q with | nil => rfl | cons => cases h
    | cons x p ih =>
      intro q h
      cases q with
      | nil => cases h
      | cons y q =>
        have h := List.cons.inj h
        rw [NestedKey.text.inj h.1, ih q h.2]
  exact key p q h2
/-- a path, the key's address, the value's address -/
abbrev Ent := List Str × Addr × Addr
def entH (e : Ent) : NestedKey × Addr × Value := (nkey e.1, e.2.1, .ref e.2.2)
def DN (P : Program) (w : World) (a : Addr) (es : List Ent) : HO := .ext fun h => (a == sysModules) = false ∧ ∃ o xs ep, h.get? a = some o ∧ o.ExactDict ∧ o.data = .dict xs ep ∧ xs.toList = (es.map entH).map (entryOfKey (nestedKind P w)) ∧ (es.map (·.1)).Nodup
/-- the tuple (0, path) -/
def RoomT (H : Hp) (k : Addr) (p : List Str) : Prop := ∃ pa, H k = some (.tup [.int 0, .ref pa]) ∧ H pa = some (.tup (p.map V.str))
def KeysN (H : Hp) (es : List Ent) : Prop := ∀ e ∈ es, RoomT H e.2.1 e.1
def getN (es : List Ent) (p : List Str) : Option Ent := es.find? fun e => decide (e.1 = p)
section
variable {X : Cx} {pins : List (Addr × Obj)} {σ : L2.St} {H : Hp} {s : Shared}
theorem texts_all {h : Heap} : ∀ {p : List Str} {us : List Value}, Vals (p.map V.str) us → NestedAll h (p.map .text) us
  | [], _, r => by cases r; exact .nil
  | x :: p, _, r => by
    cases r with
    | cons r rr =>
      obtain ⟨t, rfl⟩ := r
      exact .cons (.text x t) (texts_all rr)
theorem depth_texts : ∀ p : List Str, NestedKey.depthAll (p.map .text) = 0
  | [] => rfl
  | x :: p => by
    show max 0 (NestedKey.depthAll (p.map .text)) = 0
    rw [depth_texts p]; rfl
theorem room_is (I : Inv X pins σ H s) {k : Addr} {p : List Str} (h : RoomT H k p) : (nestedKind X.prog X.w).is s.heap (nkey p) k := by
  obtain ⟨pa, h1, h2⟩ := h
  obtain ⟨its, r1, ⟨o, ho, hc, n, hd⟩, _⟩ := I.tuple (SqT.of h1)
  obtain ⟨its2, r2, ⟨o2, ho2, hc2, n2, hd2⟩, _⟩ := I.tuple (SqT.of h2)
  refine ⟨?_, ?_⟩
  · cases r1 with
    | cons ra r1 =>
      cases r1 with
      | cons rb r1 =>
        cases r1
        obtain ⟨t, rfl⟩ := ra
        cases rb
        exact .tup ho hc hd (.cons (.int 0 t) (.cons (.tup ho2 hc2 hd2 (texts_all r2)) .nil))
  · show NestedKey.depth (nkey p) ≤ 8
    show max 0 (max (NestedKey.depthAll (p.map .text) + 1) 0) + 1 ≤ 8
    rw [depth_texts]
    decide
theorem dn_of (I : Inv X pins σ H s) {a : Addr} {es : List Ent} (e : H a = some (DN X.prog X.w a es)) (hk : KeysN H es) : (a == sysModules) = false ∧ s.heap.DictOfH (nestedKind X.prog X.w) a (es.map entH) := by
  obtain ⟨⟨h0, o, xs, ep, h1, h2, h3, h4, h5⟩, _⟩ := I.hok a _ e
  refine ⟨h0, o, xs, ep, h1, h2, h3, h4, fun x hx => ?_, ?_⟩
  · obtain ⟨e', he, rfl⟩ := List.mem_map.mp hx
    exact room_is I (hk e' he)
  · rw [List.map_map]
    have : ((fun x : NestedKey × Addr × Value => x.1) ∘ entH) = fun e => nkey e.1 := rfl
    rw [this, show (es.map fun e => nkey e.1) = (es.map (·.1)).map nkey from by rw [List.map_map]; rfl]
    exact List.Pairwise.map nkey (fun a b hab z => hab (nkey_inj z)) h5
theorem at_entH : ∀ (es : List Ent) (p : List Str), atKey (es.map entH) (nkey p) = (getN es p).map fun e => (e.2.1, Value.ref e.2.2)
  | [], _ => rfl
  | e :: es, p => by
    unfold atKey getN
    rw [List.map_cons, List.find?_cons, List.find?_cons]
    by_cases h : e.1 = p
    · rw [show decide ((entH e).1 = nkey p) = true from decide_eq_true (by rw [← h]; rfl), show decide (e.1 = p) = true from decide_eq_true h]
      rfl
    · rw [show decide ((entH e).1 = nkey p) = false from decide_eq_false (fun z => h (nkey_inj z)), show decide (e.1 = p) = false from decide_eq_false h]
      exact at_entH es p
/-- d[k] -/
def rGetN (P : Program) (w : World) : V → V → Hp → VK → Prop := fun x y H Q => ∃ (a k : Addr) (es : List Ent) (p : List Str) (e : Ent), x = .ref a ∧ y = .ref k ∧ H a = some (DN P w a es) ∧ KeysN H es ∧ RoomT H k p ∧ getN es p = some e ∧ Q (.ref e.2.2) H
def tGetN (P : Program) (w : World) (td ty : TE) : TE := fun σ H Q => td σ H fun x H1 => ty σ H1 fun y H2 => rGetN P w x y H2 Q
theorem pe_getN {o i : Expr} {td ty : TE} {pos : Pos} (hu : X.A.units + 10 < cLine) (ho : PE X o td) (hi : PE X i ty) (hs : NoSl i) : PE X (.Subscript o i pos) (tGetN X.prog X.w td ty) := by
  refine ⟨fun pins s σ H Q I h => ?_⟩
  refine subD_of PySem.F.slot_dict_getitem.lookup hs (thn (ho.run pins s σ H _ I h) fun u s1 ⟨x, H1, I1, rx, q1⟩ => thn (hi.run pins s1 σ H1 _ I1 q1) fun iv s2 ⟨y, H2, I2, ry, a, k, es, p, e, ex, ey, ea, hk, hr, hg, q2⟩ => ?_)
  subst ex
  subst ey
  obtain rfl : u = Value.ref a := rx
  obtain rfl : iv = Value.ref k := ry
  obtain ⟨h0, dd⟩ := dn_of I2 ea hk
  refine ⟨dd.typeIs, wpAny_getItem_heap (knd := nestedKind X.prog X.w) (show X.A.units + 1 + 8 < cLine by omega) (room_is I2 hr) dd (show atKey _ _ = some (e.2.1, Value.ref e.2.2) from by rw [at_entH, hg]; rfl) ?_⟩
  exact ⟨.ref e.2.2, H2, I2.tok _, rfl, q2⟩
/-- d[k] = v, not there yet; an empty dict, too -/
def setN (P : Program) (w : World) : TSet := fun o i v H Q => ∃ (a k b : Addr) (es : List Ent) (p : List Str), o = .ref a ∧ i = .ref k ∧ v = .ref b ∧ (H a = some (DN P w a es) ∨ (H a = some (.dK []) ∧ es = [])) ∧ KeysN H es ∧ RoomT H k p ∧ p ∉ es.map (·.1) ∧ es.length < sizeLine ∧ Q (upd H a (DN P w a (es ++ [(p, k, b)])))
theorem set_N (hu : X.A.units + 10 < cLine) : PSet X (setN X.prog X.w) := by
  intro pins s σ H o i v ov iv u Q I ro ri rv h
  obtain ⟨a, k, b, es, p, rfl, rfl, rfl, ha, hk, hr, hn, hl, q⟩ := h
  obtain rfl : ov = Value.ref a := ro
  obtain rfl : iv = Value.ref k := ri
  obtain rfl : u = Value.ref b := rv
  have dd : (a == sysModules) = false ∧ s.heap.DictOfH (nestedKind X.prog X.w) a (es.map entH) := by
    rcases ha with ha | ⟨ha, rfl⟩
    · exact dn_of I ha hk
    · obtain ⟨_, h0, vs, kv, o, xs, ep, h1, h2, h3, _, pr, _⟩ := dk_of I.hok ha
      refine ⟨h0, o, xs, ep, h1, h2, h3, ?_, (fun x hx => nomatch hx), List.nodup_nil⟩
      cases kv
      generalize hx : xs.toList = l at pr
      cases pr
      rfl
  obtain ⟨h0, dd⟩ := dd
  have hnone : atKey (es.map entH) (nkey p) = none := by
    rw [at_entH, Option.map_eq_none_iff]
    unfold getN
    rw [List.find?_eq_none]
    intro e he z
    exact hn (List.mem_map.mpr ⟨e, he, of_decide_eq_true z⟩)
  refine wpAny_setItem_heap (knd := nestedKind X.prog X.w) (hsz := by rw [List.length_map]; omega) (show X.A.units + 1 + 8 < cLine by omega) (room_is I hr) dd fun h' dd' hs => ?_
  rw [storedH_new hnone] at dd'
  obtain ⟨o, xs, ep, h1, h2, h3, h4, _, _⟩ := dd'
  have hnd : ((es ++ [(p, k, b)]).map (·.1)).Nodup := by
    rw [List.map_append, List.nodup_append]
    refine ⟨?_, by simp, fun x hx y hy => ?_⟩
    · rcases ha with ha | ⟨_, rfl⟩
      · obtain ⟨⟨_, _, _, _, _, _, _, _, h5⟩, _⟩ := I.hok a _ ha
        exact h5
      · exact List.nodup_nil
    · rintro rfl
      have : x = p := by simpa using hy
      rw [this] at hx
      exact hn hx
  have mu : Mut (H a) := by
    rcases ha with ha | ⟨ha, _⟩ <;> rw [ha] <;> exact True.intro
  refine ⟨_, d_write I mu hs ⟨o, h1⟩ (ob := DN X.prog X.w a (es ++ [(p, k, b)])) ⟨⟨h0, o, xs, ep, h1, h2, h3, ?_, hnd⟩, ⟨o, h1⟩, fun g1 g2 hg hkeep => ?_⟩, q⟩
  · rw [h4, List.map_append, List.map_append, List.map_append]
    rfl
  · obtain ⟨k0, o', xs', ep', k1, k2, k3, k4, k5⟩ := hg
    exact ⟨k0, o', xs', ep', hkeep _ k1, k2, k3, k4, k5⟩
end
end Cor

set_option Elab.async false
set_option linter.all false
set_option maxRecDepth 100000
set_option maxHeartbeats 1000000
namespace Law
open PySem PySem.Spec PyProof.Rows L2 Cor
/-! ### the classes Spot and Plain -/
abbrev sSpotI : Stmt := inClass (topS 20) 0
theorem scSpotI : FnScope ["self", "much", "house"] ["self", "much", "house"] (defScope sSpotI) := ⟨rfl, rfl, rfl, by decide +kernel, rfl, by decide +kernel, by decide +kernel⟩
abbrev sPlainI : Stmt := inClass (topS 22) 0
theorem scPlainI : FnScope ["self", "spots", "entered"] ["self", "spots", "entered"] (defScope sPlainI) := ⟨rfl, rfl, rfl, by decide +kernel, rfl, by decide +kernel, by decide +kernel⟩
structure ClS (K : PySem.W.Frag) (mg : Str → Option Value) (CS : Addr) : Prop where
  nm : mg "Spot" = some (.ref CS)
  cl : Cls K CS
  n1 : NoAttr K CS "much"
  n2 : NoAttr K CS "house"
  n3 : NoAttr K CS "doors"
structure ClP (K : PySem.W.Frag) (mg : Str → Option Value) (CP : Addr) : Prop where
  nm : mg "Plain" = some (.ref CP)
  cl : Cls K CP
  n1 : NoAttr K CP "spots"
  n2 : NoAttr K CP "entered"
def spotF (v1 v2 : V) (dd : Addr) : List (Str × V) := [("much", v1), ("house", v2), ("doors", .ref dd)]
def spInitS (CS : Addr) : Sp := fun vs H Q _ => ∃ (a dx : Addr) (v1 v2 : V), vs = [.ref a, v1, v2] ∧ H a = some (.ins CS dx []) ∧
  ∀ dd, upd (upd H a (.ins CS dx [("much", v1)])) a (.ins CS dx [("much", v1), ("house", v2)]) dd = none → Q .non (upd (upd (upd (upd H a (.ins CS dx [("much", v1)])) a (.ins CS dx [("much", v1), ("house", v2)])) dd (.dK [])) a (.ins CS dx (spotF v1 v2 dd)))
def spInitP (CP : Addr) : Sp := fun vs H Q _ => ∃ (a dx : Addr) (v1 v2 : V), vs = [.ref a, v1, v2] ∧ H a = some (.ins CP dx []) ∧ Q .non (upd (upd H a (.ins CP dx [("spots", v1)])) a (.ins CP dx [("spots", v1), ("entered", v2)]))
section
variable {P : Program} {w : World} {K : PySem.W.Frag} {mg : Str → Option Value} {base : Heap} {CS CP : Addr}
theorem ok_spotI {f : Addr} {fd : FuncData} (F : Fun K "__init__" "Spot.__init__" sSpotI f fd) (W : ClS K mg CS) : FnOk P w K mg base CX0 1 f fd ["self", "much", "house"] (spInitS CS) := by
  refine F.ok scSpotI (fun vs H Q E h => ?_) (fun cdv A outer s H vs Q E hr h => ?_)
  · obtain ⟨a, dx, v1, v2, rfl, _⟩ := h
    rfl
  · obtain ⟨a, dx, v1, v2, rfl, ha, q⟩ := h
    refine ⟨_, (pss_cons (ps_fld (pv 0) (pv 1) rfl)
      (pss_cons (ps_fld (pv 0) (pv 2) rfl)
      (pss_one (ps_fld (pv 0) pe_dnewK rfl)))), ?_⟩
    refine ⟨_, rfl, _, rfl, a, CS, dx, _, rfl, ha, W.cl, W.n1, (by show 0 < 1000; decide), ?_⟩
    refine ⟨_, rfl, _, rfl, a, CS, dx, _, rfl, upd_same, W.cl, W.n2, (by show 1 < 1000; decide), ?_⟩
    intro dd nd
    refine ⟨_, rfl, a, CS, dx, [("much", v1), ("house", v2)], rfl, ?_, W.cl, W.n3, (by show 2 < 1000; decide), q dd nd⟩
    rw [upd_ne (fun z => by rw [← z, upd_same] at nd; cases nd)]
    exact upd_same
theorem ok_plainI {f : Addr} {fd : FuncData} (F : Fun K "__init__" "Plain.__init__" sPlainI f fd) (W : ClP K mg CP) : FnOk P w K mg base CX0 1 f fd ["self", "spots", "entered"] (spInitP CP) := by
  refine F.ok scPlainI (fun vs H Q E h => ?_) (fun cdv A outer s H vs Q E hr h => ?_)
  · obtain ⟨a, dx, v1, v2, rfl, _⟩ := h
    rfl
  · obtain ⟨a, dx, v1, v2, rfl, ha, q⟩ := h
    refine ⟨_, (pss_cons (ps_fld (pv 0) (pv 1) rfl)
      (pss_one (ps_fld (pv 0) (pv 2) rfl))), ?_⟩
    refine ⟨_, rfl, _, rfl, a, CP, dx, _, rfl, ha, W.cl, W.n1, (by show 0 < 1000; decide), ?_⟩
    exact ⟨_, rfl, _, rfl, a, CP, dx, _, rfl, upd_same, W.cl, W.n2, (by show 1 < 1000; decide), q⟩
end
/-- makers -/
structure MkS (P : Program) (w : World) (K : PySem.W.Frag) (mg : Str → Option Value) (base : Heap) (CS : Addr) : Prop extends ClS K mg CS where
  made : ∃ f fd, Mk K CS f ∧ FnOk P w K mg base CX0 1 f fd ["self", "much", "house"] (spInitS CS) ∧ Binds K fd ["self", "much", "house"] []
structure MkP (P : Program) (w : World) (K : PySem.W.Frag) (mg : Str → Option Value) (base : Heap) (CP : Addr) : Prop extends ClP K mg CP where
  made : ∃ f fd, Mk K CP f ∧ FnOk P w K mg base CX0 1 f fd ["self", "spots", "entered"] (spInitP CP) ∧ Binds K fd ["self", "spots", "entered"] []
def tNewS (CS : Addr) (t1 t2 : TE) : TE := fun σ H Q => t1 σ H fun v1 H0 => t2 σ H0 fun v2 H1 => ∀ (a dd : Addr) (H' : Hp), Same H1 H' → H1 a = none → H1 dd = none → a ≠ dd → (∃ dx, H' a = some (.ins CS dx (spotF v1 v2 dd))) → H' dd = some (.dK []) → Q (.ref a) H'
def tNewP (CP : Addr) (t1 t2 : TE) : TE := fun σ H Q => t1 σ H fun v1 H0 => t2 σ H0 fun v2 H1 => ∀ (a : Addr) (H' : Hp), Same H1 H' → H1 a = none → (∃ dx, H' a = some (.ins CP dx [("spots", v1), ("entered", v2)])) → Q (.ref a) H'
section
variable {X : Cx} {CS CP : Addr} {e1 e2 : Expr} {t1 t2 : TE} {p pos : Pos}
theorem pe_newS (W : MkS X.prog X.w X.K X.mg X.base CS) (hr : Room 2 X.A) (hg : Gl X "Spot") (h1 : PE X e1 t1) (h2 : PE X e2 t2) (hs : starEach [e1, e2] X.env = (false, eval e1 X.env) :: starEach [e2] X.env := by rfl) (hs2 : starEach [e2] X.env = (false, eval e2 X.env) :: starEach [] X.env := by rfl) (hpl : (backTo pos (starEach [e2] X.env)).any (·.1) = false := by rfl) :
    PE X (.Call (.Name "Spot" p) [e1, e2] [] pos) (tNewS CS t1 t2) := by
  obtain ⟨f, fd, M, F, b⟩ := W.made
  refine (pe_make (E := E0) M F hr hg W.nm b .nil pass0 (pa_cons h1.up (pa_cons h2.up pa_nil hs2) hs) (by decide) hs hpl).imp fun σ H Q q => ?_
  refine ⟨_, q, fun v1 H0 z0 => ⟨_, z0, fun v2 H1 z x dx nx nd ne => ⟨x, dx, v1, v2, rfl, upd_same, fun dd hdd => ⟨rfl, ?_⟩⟩⟩⟩
  have hxd : x ≠ dd := fun e => by rw [← e, upd_same] at hdd; cases hdd
  rw [upd_ne hxd.symm, upd_ne hxd.symm, upd_ne hxd.symm] at hdd
  have hdx : dx ≠ dd := fun e => by rw [← e, upd_same] at hdd; cases hdd
  rw [upd_ne hdx.symm] at hdd
  refine z x dd _ (fun b o e => ?_) nx hdd hxd ⟨dx, upd_same⟩ ?_
  · have b1 := ne_of_none e nx
    have b2 := ne_of_none e nd
    have b3 := ne_of_none e hdd
    rw [upd_ne b1, upd_ne b3, upd_ne b1, upd_ne b1, upd_ne b1, upd_ne b2]
    exact e
  · rw [upd_ne hxd.symm, upd_same]
theorem pe_newP (W : MkP X.prog X.w X.K X.mg X.base CP) (hr : Room 2 X.A) (hg : Gl X "Plain") (h1 : PE X e1 t1) (h2 : PE X e2 t2) (hs : starEach [e1, e2] X.env = (false, eval e1 X.env) :: starEach [e2] X.env := by rfl) (hs2 : starEach [e2] X.env = (false, eval e2 X.env) :: starEach [] X.env := by rfl) (hpl : (backTo pos (starEach [e2] X.env)).any (·.1) = false := by rfl) :
    PE X (.Call (.Name "Plain" p) [e1, e2] [] pos) (tNewP CP t1 t2) := by
  obtain ⟨f, fd, M, F, b⟩ := W.made
  refine (pe_make (E := E0) M F hr hg W.nm b .nil pass0 (pa_cons h1.up (pa_cons h2.up pa_nil hs2) hs) (by decide) hs hpl).imp fun σ H Q q => ?_
  refine ⟨_, q, fun v1 H0 z0 => ⟨_, z0, fun v2 H1 z x dx nx nd ne => ⟨x, dx, v1, v2, rfl, upd_same, rfl, ?_⟩⟩⟩
  refine z x _ (fun b o e => ?_) nx ⟨dx, upd_same⟩
  have b1 := ne_of_none e nx
  have b2 := ne_of_none e nd
  rw [upd_ne b1, upd_ne b1, upd_ne b1, upd_ne b2]
  exact e
end
end Law

set_option Elab.async false
set_option linter.all false
set_option maxRecDepth 100000
set_option maxHeartbeats 1000000
namespace Law
open PySem PySem.Spec PyProof.Rows L2 Cor
/-! ### the order of paths -/
theorem cps_eq {x y : Str} (h : x.cps.toList = y.cps.toList) : x = y := TL.ext_tl h
theorem leS_anti {x y : Str} (h1 : leS x y = true) (h2 : leS y x = true) : x = y := by
  unfold leS at h1 h2
  rw [Bool.not_eq_true', decide_eq_false_iff_not] at h1 h2
  exact cps_eq (List.le_antisymm (fun z => h1 z) (fun z => h2 z))
theorem leS_trans {x y z : Str} (h1 : leS x y = true) (h2 : leS y z = true) : leS x z = true := by
  unfold leS at h1 h2 ⊢
  rw [Bool.not_eq_true', decide_eq_false_iff_not] at h1 h2 ⊢
  exact List.le_trans (show x.cps.toList ≤ y.cps.toList from h1) (show y.cps.toList ≤ z.cps.toList from h2)
theorem leS_total (x y : Str) : leS x y = true ∨ leS y x = true := by
  unfold leS
  rw [Bool.not_eq_true', decide_eq_false_iff_not, Bool.not_eq_true', decide_eq_false_iff_not]
  exact List.le_total x.cps.toList y.cps.toList
theorem pathLe_refl : ∀ p : List Str, pathLe p p = true
  | [] => rfl
  | x :: p => by
    show (if x = x then pathLe p p else leS x x) = true
    rw [if_pos rfl]
    exact pathLe_refl p
theorem pathLe_trans : ∀ p q r : List Str, pathLe p q = true → pathLe q r = true → pathLe p r = true
  | [], _, _, _, _ => rfl
  | _ :: _, [], _, h, _ => by cases h
  | _ :: _, _ :: _, [], _, h => by cases h
  | x :: p, y :: q, z :: r, h1, h2 => by
    have h1 : (if x = y then pathLe p q else leS x y) = true := h1
    have h2 : (if y = z then pathLe q r else leS y z) = true := h2
    show (if x = z then pathLe p r else leS x z) = true
    by_cases e1 : x = y
    · subst e1
      rw [if_pos rfl] at h1
      by_cases e2 : x = z
      · subst e2
        rw [if_pos rfl] at h2 ⊢
        exact pathLe_trans p q r h1 h2
      · rw [if_neg e2] at h2 ⊢
        exact h2
    · rw [if_neg e1] at h1
      by_cases e2 : y = z
      · subst e2
        rw [if_neg e1]
        exact h1
      · rw [if_neg e2] at h2
        by_cases e3 : x = z
        · subst e3
          exact absurd (leS_anti h1 h2) e1
        · rw [if_neg e3]
          exact leS_trans h1 h2
theorem pathLe_total : ∀ p q : List Str, pathLe p q = true ∨ pathLe q p = true
  | [], _ => .inl rfl
  | _ :: _, [] => .inr rfl
  | x :: p, y :: q => by
    show (if x = y then pathLe p q else leS x y) = true ∨ (if y = x then pathLe q p else leS y x) = true
    by_cases e : x = y
    · subst e
      rw [if_pos rfl, if_pos rfl]
      exact pathLe_total p q
    · rw [if_neg e, if_neg (Ne.symm e)]
      exact leS_total x y
theorem pathLe_anti : ∀ p q : List Str, pathLe p q = true → pathLe q p = true → p = q
  | [], [], _, _ => rfl
  | [], _ :: _, _, h => by cases h
  | _ :: _, [], h, _ => by cases h
  | x :: p, y :: q, h1, h2 => by
    have h1 : (if x = y then pathLe p q else leS x y) = true := h1
    have h2 : (if y = x then pathLe q p else leS y x) = true := h2
    by_cases e : x = y
    · subst e
      rw [if_pos rfl] at h1 h2
      rw [pathLe_anti p q h1 h2]
    · rw [if_neg e] at h1
      rw [if_neg (Ne.symm e)] at h2
      exact absurd (leS_anti h1 h2) e
/-- p stands ahead of q -/
def Ahead (p q : List Str) : Prop := pathLe q p = false
theorem Ahead.le {p q : List Str} (h : Ahead p q) : pathLe p q = true := (pathLe_total p q).elim id fun z => by rw [Ahead, z] at h; cases h
theorem Ahead.ne {p q : List Str} (h : Ahead p q) : p ≠ q := fun z => by
  unfold Ahead at h
  rw [z, pathLe_refl] at h
  cases h
theorem Ahead.trans {p q r : List Str} (h1 : pathLe p q = true) (h2 : Ahead q r) : Ahead p r := by
  unfold Ahead at h2 ⊢
  cases h : pathLe r p with
  | false => rfl
  | true => rw [pathLe_trans r p q h h1] at h2; cases h2
/-! ### rows that were read -/
def Good (rs : List Rw) : Prop := ∀ i r, rs[i]? = some r → fits (rs.take i) r
theorem Good.nil : Good [] := fun i r h => by cases h
theorem Good.snoc {rs : List Rw} {r : Rw} (h : Good rs) (hf : fits rs r) : Good (rs ++ [r]) := fun i r' hr => by
  rcases Nat.lt_or_ge i rs.length with hi | hi
  · rw [List.getElem?_append_left hi] at hr
    rw [List.take_append_of_le_length (Nat.le_of_lt hi)]
    exact h i r' hr
  · rw [List.getElem?_append_right hi] at hr
    cases hk : i - rs.length with
    | zero =>
      rw [hk] at hr
      cases hr
      have e : i = rs.length := by omega
      rw [e, List.take_left]
      exact hf
    | succ n =>
      rw [hk] at hr
      cases hr
theorem Good.init {rs : List Rw} {r : Rw} (h : Good (rs ++ [r])) : Good rs ∧ fits rs r := by
  refine ⟨fun i r' hr => ?_, ?_⟩
  · have hi := (List.getElem?_eq_some_iff.mp hr).1
    have := h i r' (by rw [List.getElem?_append_left hi]; exact hr)
    rw [List.take_append_of_le_length (Nat.le_of_lt hi)] at this
    exact this
  · have := h rs.length r (by simp)
    rw [List.take_left] at this
    exact this
theorem read_good : ∀ (rows : List Str) (found rs : List Rw), Good found → readRows rows found = .inr rs → Good rs
  | [], found, rs, h, e => by cases e; exact h
  | row :: rest, found, rs, h, e => by
    have e : (match rowT row with | some r => if fits found r then readRows rest (found ++ [r]) else .inl found.length | none => .inl found.length) = Sum.inr rs := e
    cases hr : rowT row with
    | none => rw [hr] at e; cases e
    | some r =>
      rw [hr] at e
      have e : (if fits found r then readRows rest (found ++ [r]) else .inl found.length) = Sum.inr rs := e
      by_cases hf : fits found r
      · rw [if_pos hf] at e
        exact read_good rest _ rs (h.snoc hf) e
      · rw [if_neg hf] at e
        cases e
theorem good_ahead {rs : List Rw} {r : Rw} (h : Good rs) (hf : fits rs r) : ∀ a ∈ rs, Ahead a.1 r.1 := by
  have key : ∀ (n : Nat) (rs : List Rw) (r : Rw), rs.length = n → Good rs → fits rs r → ∀ a ∈ rs, Ahead a.1 r.1 := by
    intro n
    induction n with
    | zero =>
      intro rs r hl _ _ a ha
      rw [List.length_eq_zero_iff.mp hl] at ha
      exact nomatch ha
    | succ n ih =>
      intro rs r hl h hf a ha
      obtain ⟨init, l, rfl⟩ : ∃ init l, rs = init ++ [l] := ⟨rs.dropLast, rs.getLast (fun z => by rw [z] at hl; cases hl), (List.dropLast_concat_getLast _).symm⟩
      have hl1 : Ahead l.1 r.1 := (hf.2 l (by simp)).1
      rcases List.mem_append.mp ha with ha | ha
      · obtain ⟨g1, g2⟩ := h.init
        have := ih init l (by rw [List.length_append, List.length_singleton] at hl; omega) g1 g2 a ha
        exact Ahead.trans this.le hl1
      · rw [List.mem_singleton.mp ha]
        exact hl1
  exact key _ rs r rfl h hf
theorem good_fresh {rs : List Rw} {r : Rw} (h : Good rs) (hf : fits rs r) : r.1 ∉ rs.map (·.1) := fun z => by
  obtain ⟨a, ha, e⟩ := List.mem_map.mp z
  exact (good_ahead h hf a ha).ne e
end Law

set_option Elab.async false
set_option linter.all false
set_option maxRecDepth 100000
set_option maxHeartbeats 1000000
namespace Law
open PySem PySem.Spec PyProof.Rows L2 Cor
/-! ### the rooms of a store in the heap -/
def kidOf (p : List Str) (r : Rw) : Option Str := if r.1 ≠ [] ∧ r.1.dropLast = p then r.1.getLast? else none
/-- the names below a path, in the order of the rows -/
def kids (p : List Str) (rs : List Rw) : List Str := rs.filterMap (kidOf p)
theorem kids_snoc (p : List Str) (rs : List Rw) (r : Rw) : kids p (rs ++ [r]) = kids p rs ++ (kidOf p r).toList := by
  unfold kids
  rw [List.filterMap_append]
  cases h : kidOf p r <;> simp [List.filterMap_cons, h]
theorem last_back {p : List Str} {n : Str} (h : p.getLast? = some n) : p = p.dropLast ++ [n] := by
  obtain ⟨ys, rfl⟩ := List.getLast?_eq_some_iff.mp h
  rw [List.dropLast_concat]
theorem nodup_inj {α β : Type} {f : α → β} : ∀ {l : List α}, (l.map f).Nodup → ∀ {a b : α}, a ∈ l → b ∈ l → f a = f b → a = b
  | [], _, _, _, ha, _, _ => nomatch ha
  | x :: l, h, a, b, ha, hb, e => by
    rw [List.map_cons, List.nodup_cons] at h
    rcases List.mem_cons.mp ha with ea | ha'
    · rcases List.mem_cons.mp hb with eb | hb'
      · rw [ea, eb]
      · exact absurd (List.mem_map.mpr ⟨b, hb', by rw [← e, ea]⟩) h.1
    · rcases List.mem_cons.mp hb with eb | hb'
      · exact absurd (List.mem_map.mpr ⟨a, ha', by rw [e, eb]⟩) h.1
      · exact nodup_inj h.2 ha' hb' e
theorem good_nodup {rs : List Rw} (h : Good rs) : (rs.map (·.1)).Nodup := by
  have key : ∀ (n : Nat) (rs : List Rw), rs.length = n → Good rs → (rs.map (·.1)).Nodup := by
    intro n
    induction n with
    | zero =>
      intro rs hl _
      rw [List.length_eq_zero_iff.mp hl]
      exact List.nodup_nil
    | succ n ih =>
      intro rs hl h
      obtain ⟨init, l, rfl⟩ : ∃ init l, rs = init ++ [l] := ⟨rs.dropLast, rs.getLast (fun z => by rw [z] at hl; cases hl), (List.dropLast_concat_getLast _).symm⟩
      obtain ⟨g1, g2⟩ := h.init
      rw [List.map_append, List.nodup_append]
      refine ⟨ih init (by rw [List.length_append, List.length_singleton] at hl; omega) g1, by simp, fun x hx y hy => ?_⟩
      rintro rfl
      have : x = l.1 := by simpa using hy
      rw [this] at hx
      exact good_fresh g1 g2 hx
  exact key _ rs rfl h
theorem mem_kids {p : List Str} {rs : List Rw} {n : Str} (h : n ∈ kids p rs) : ∃ r ∈ rs, r.1 = p ++ [n] := by
  obtain ⟨r, hr, e⟩ := List.mem_filterMap.mp h
  unfold kidOf at e
  split at e
  · rename_i hc
    refine ⟨r, hr, ?_⟩
    rw [last_back e, hc.2]
  · cases e
def DoorAt (H : Hp) (p : List Str) (kv : L2.Key × V) (n : Str) : Prop := kv.1 = Sum.inr n ∧ ∃ k, kv.2 = .ref k ∧ RoomT H k (p ++ [n])
inductive DoorsAt (H : Hp) (p : List Str) : List (L2.Key × V) → List Str → Prop
  | nil : DoorsAt H p [] []
  | cons {kv : L2.Key × V} {kvs : List (L2.Key × V)} {n : Str} {ns : List Str} : DoorAt H p kv n → DoorsAt H p kvs ns → DoorsAt H p (kv :: kvs) (n :: ns)
theorem _root_.Cor.RoomT.kp {H H' : Hp} (k : Kp H H') {a : Addr} {p : List Str} (h : RoomT H a p) : RoomT H' a p := let ⟨pa, h1, h2⟩ := h; ⟨pa, k _ _ (fun _ z => by cases z) h1, k _ _ (fun _ z => by cases z) h2⟩
/-- tuples stay -/
def Kt (H H' : Hp) : Prop := ∀ b xs, H b = some (.tup xs) → H' b = some (.tup xs)
theorem _root_.Cor.RoomT.kt {H H' : Hp} (k : Kt H H') {a : Addr} {p : List Str} (h : RoomT H a p) : RoomT H' a p := let ⟨pa, h1, h2⟩ := h; ⟨pa, k _ _ h1, k _ _ h2⟩
theorem kt_same {H H' : Hp} (s : Same H H') : Kt H H' := fun b xs e => s b _ e
theorem DoorsAt.kt {H H' : Hp} (k : Kt H H') {p : List Str} {kvs : List (L2.Key × V)} {ns : List Str} (h : DoorsAt H p kvs ns) : DoorsAt H' p kvs ns := by
  induction h with
  | nil => exact .nil
  | cons a _ ih => obtain ⟨e, b, e2, r⟩ := a; exact .cons ⟨e, b, e2, r.kt k⟩ ih
theorem DoorsAt.snoc {H : Hp} {p : List Str} {kvs : List (L2.Key × V)} {ns : List Str} {kv : L2.Key × V} {n : Str} (h : DoorsAt H p kvs ns) (a : DoorAt H p kv n) : DoorsAt H p (kvs ++ [kv]) (ns ++ [n]) := by
  induction h with
  | nil => exact .cons a .nil
  | cons b _ ih => exact .cons b ih
theorem DoorsAt.keys {H : Hp} {p : List Str} {kvs : List (L2.Key × V)} {ns : List Str} (h : DoorsAt H p kvs ns) : kvs.map (·.1) = ns.map Sum.inr := by
  induction h with
  | nil => rfl
  | cons a _ ih => rw [List.map_cons, List.map_cons, ih, a.1]
/-- a row, the key's address, the spot's, its doors' -/
abbrev Cell := Rw × Addr × Addr × Addr
def SpotAt (H : Hp) (CS : Addr) (c : Cell) : Prop := ∃ dx, H c.2.2.1 = some (.ins CS dx (spotF (.int c.1.2.1) (.str c.1.2.2) c.2.2.2))
def CellAt (H : Hp) (CS : Addr) (ks : List Str) (c : Cell) : Prop := RoomT H c.2.1 c.1.1 ∧ SpotAt H CS c ∧ ∃ kvs, H c.2.2.2 = some (.dK kvs) ∧ DoorsAt H c.1.1 kvs ks
def entC (c : Cell) : Ent := (c.1.1, c.2.1, c.2.2.1)
structure Store (P : Program) (w : World) (CS : Addr) (H : Hp) (d : Addr) (cs : List Cell) : Prop where
  at_ : H d = some (DN P w d (cs.map entC)) ∨ (H d = some (.dK []) ∧ cs = [])
  cells : ∀ c ∈ cs, CellAt H CS (kids c.1.1 (cs.map (·.1))) c
  nd : (cs.map (·.2.2.2)).Nodup
theorem CellAt.same {H H' : Hp} (s : Same H H') {CS : Addr} {ks : List Str} {c : Cell} (h : CellAt H CS ks c) : CellAt H' CS ks c := by
  obtain ⟨h1, ⟨dx, h2⟩, kvs, h3, h4⟩ := h
  exact ⟨h1.kt (kt_same s), ⟨dx, s _ _ h2⟩, kvs, s _ _ h3, h4.kt (kt_same s)⟩
theorem Store.same {P : Program} {w : World} {CS : Addr} {H H' : Hp} {d : Addr} {cs : List Cell} (s : Same H H') (h : Store P w CS H d cs) : Store P w CS H' d cs :=
  ⟨h.at_.imp (fun e => s _ _ e) (fun e => ⟨s _ _ e.1, e.2⟩), fun c hc => (h.cells c hc).same s, h.nd⟩
theorem Store.keys {P : Program} {w : World} {CS : Addr} {H : Hp} {d : Addr} {cs : List Cell} (h : Store P w CS H d cs) : KeysN H (cs.map entC) := fun e he => by
  obtain ⟨c, hc, rfl⟩ := List.mem_map.mp he
  exact (h.cells c hc).1
/-- a new cell stands, its door is not told yet -/
structure Store1 (P : Program) (w : World) (CS : Addr) (H : Hp) (d : Addr) (cs : List Cell) (c : Cell) : Prop where
  at_ : H d = some (DN P w d ((cs ++ [c]).map entC))
  cells : ∀ e ∈ cs, CellAt H CS (kids e.1.1 (cs.map (·.1))) e
  new : CellAt H CS [] c
  nd : ((cs ++ [c]).map (·.2.2.2)).Nodup
theorem Store1.same {P : Program} {w : World} {CS : Addr} {H H' : Hp} {d : Addr} {cs : List Cell} {c : Cell} (s : Same H H') (h : Store1 P w CS H d cs c) : Store1 P w CS H' d cs c :=
  ⟨s _ _ h.at_, fun e he => (h.cells e he).same s, h.new.same s, h.nd⟩
theorem Store1.keys {P : Program} {w : World} {CS : Addr} {H : Hp} {d : Addr} {cs : List Cell} {c : Cell} (h : Store1 P w CS H d cs c) : KeysN H ((cs ++ [c]).map entC) := fun e he => by
  obtain ⟨x, hx, rfl⟩ := List.mem_map.mp he
  rcases List.mem_append.mp hx with hx | hx
  · exact (h.cells x hx).1
  · rw [List.mem_singleton.mp hx]
    exact h.new.1
/-- the first step: the spot is put in -/
theorem Store.put {P : Program} {w : World} {CS : Addr} {H : Hp} {d : Addr} {cs : List Cell} {c : Cell} (h : Store P w CS H d cs) (hr : RoomT H c.2.1 c.1.1) (hs : SpotAt H CS c) (hd : H c.2.2.2 = some (.dK [])) (hnew : c.2.2.2 ∉ cs.map (·.2.2.2)) (hne : c.2.2.2 ≠ d) :
    Store1 P w CS (upd H d (DN P w d ((cs ++ [c]).map entC))) d cs c := by
  have kt : Kt H (upd H d (DN P w d ((cs ++ [c]).map entC))) := fun b xs e => by
    rw [upd_ne (fun z => by
      rw [z] at e
      rcases h.at_ with h1 | ⟨h1, _⟩ <;> rw [e] at h1 <;> cases h1)]
    exact e
  have ins : ∀ {b : Addr} {C dx : Addr} {fs : List (Str × V)}, H b = some (.ins C dx fs) → (upd H d (DN P w d ((cs ++ [c]).map entC))) b = some (.ins C dx fs) := fun {b C dx fs} e => by
    rw [upd_ne (fun z => by
      rw [z] at e
      rcases h.at_ with h1 | ⟨h1, _⟩ <;> rw [e] at h1 <;> cases h1)]
    exact e
  refine ⟨upd_same, fun e he => ?_, ?_, ?_⟩
  · obtain ⟨h1, ⟨dx, h2⟩, kvs, h3, h4⟩ := h.cells e he
    refine ⟨h1.kt kt, ⟨dx, ins h2⟩, kvs, ?_, h4.kt kt⟩
    rw [upd_ne (fun z => ?_)]
    · exact h3
    · rw [z] at h3
      rcases h.at_ with h5 | ⟨_, h5⟩
      · rw [h5] at h3; cases h3
      · rw [h5] at he; cases he
  · obtain ⟨dx, h2⟩ := hs
    exact ⟨hr.kt kt, ⟨dx, ins h2⟩, [], (upd_ne hne).trans hd, .nil⟩
  · rw [List.map_append, List.nodup_append]
    refine ⟨h.nd, by simp, fun x hx y hy => ?_⟩
    rintro rfl
    have : x = c.2.2.2 := by simpa using hy
    rw [this] at hx
    exact hnew hx
/-- no name stands below a new path -/
theorem kids_new {rs : List Rw} {r : Rw} (h : Good rs) (hf : fits rs r) : kids r.1 (rs ++ [r]) = [] := by
  rw [kids_snoc]
  have e1 : kids r.1 rs = [] := by
    rw [List.eq_nil_iff_forall_not_mem]
    intro n hn
    obtain ⟨a, ha, e⟩ := mem_kids hn
    obtain ⟨i, hi⟩ := List.mem_iff_getElem?.mp ha
    have fa := h i a hi
    cases hl : (rs.take i).getLast? with
    | none =>
      have := fa.1.mpr (List.getLast?_eq_none_iff.mp hl)
      rw [e] at this
      simp at this
    | some l =>
      have := (fa.2 l hl).2
      rw [e, List.dropLast_concat] at this
      obtain ⟨b, hb, eb⟩ := List.mem_map.mp this
      exact good_fresh h hf (List.mem_map.mpr ⟨b, List.mem_of_mem_take hb, eb⟩)
  have e2 : kidOf r.1 r = none := by
    unfold kidOf
    rw [if_neg]
    rintro ⟨h1, h2⟩
    have := congrArg List.length h2
    rw [List.length_dropLast] at this
    have := List.length_pos_iff.mpr h1
    omega
  rw [e1, e2]
  rfl
theorem Store1.root {P : Program} {w : World} {CS : Addr} {H : Hp} {d : Addr} {cs : List Cell} {c : Cell} (h : Store1 P w CS H d cs c) (g : Good (cs.map (·.1))) (hf : fits (cs.map (·.1)) c.1) (hr : c.1.1 = []) : Store P w CS H d (cs ++ [c]) := by
  have hk : ∀ q, kidOf q c.1 = none := fun q => by unfold kidOf; rw [if_neg (fun z => z.1 hr)]
  refine ⟨.inl h.at_, fun e he => ?_, h.nd⟩
  rw [List.map_append]
  rcases List.mem_append.mp he with he | he
  · have := h.cells e he
    rw [show kids e.1.1 (cs.map (·.1) ++ [c].map (·.1)) = kids e.1.1 (cs.map (·.1)) from by
      rw [show [c].map (·.1) = [c.1] from rfl, kids_snoc, hk]; simp]
    exact this
  · rw [List.mem_singleton.mp he, show [c].map (·.1) = [c.1] from rfl, kids_new g hf]
    exact h.new
/-- the second step: the door of the room above -/
theorem Store1.door {P : Program} {w : World} {CS : Addr} {H : Hp} {d : Addr} {cs : List Cell} {c pc : Cell} {n : Str} {k : Addr} {kvs : List (L2.Key × V)} (h : Store1 P w CS H d cs c) (g : Good (cs.map (·.1))) (hf : fits (cs.map (·.1)) c.1) (hp : pc ∈ cs) (he : c.1.1 = pc.1.1 ++ [n]) (hk : RoomT H k c.1.1) (hkv : H pc.2.2.2 = some (.dK kvs)) :
    Store P w CS (upd H pc.2.2.2 (.dK (putK kvs (Sum.inr n) (.ref k)))) d (cs ++ [c]) := by
  obtain ⟨_, _, kvs', h3, h4⟩ := h.cells pc hp
  rw [hkv] at h3
  cases h3
  have fresh : n ∉ kids pc.1.1 (cs.map (·.1)) := fun z => by
    obtain ⟨a, ha, e⟩ := mem_kids z
    exact good_fresh g hf (by rw [he, ← e]; exact List.mem_map.mpr ⟨a, ha, rfl⟩)
  have eput : putK kvs (Sum.inr n) (.ref k) = kvs ++ [(Sum.inr n, .ref k)] := by
    unfold putK
    rw [if_neg]
    intro z
    obtain ⟨kv, hm, hq⟩ := List.any_eq_true.mp z
    have hm2 : kv.1 ∈ kvs.map (·.1) := List.mem_map.mpr ⟨kv, hm, rfl⟩
    rw [h4.keys, of_decide_eq_true hq] at hm2
    obtain ⟨m, hm3, e⟩ := List.mem_map.mp hm2
    cases e
    exact fresh hm3
  rw [eput]
  have kt : Kt H (upd H pc.2.2.2 (.dK (kvs ++ [(Sum.inr n, .ref k)]))) := fun b xs e => by
    rw [upd_ne (fun z => by rw [z, hkv] at e; cases e)]
    exact e
  have ins : ∀ {b : Addr} {C dx : Addr} {fs : List (Str × V)}, H b = some (.ins C dx fs) → (upd H pc.2.2.2 (.dK (kvs ++ [(Sum.inr n, .ref k)]))) b = some (.ins C dx fs) := fun {b C dx fs} e => by
    rw [upd_ne (fun z => by rw [z, hkv] at e; cases e)]
    exact e
  have hne : c.1.1 ≠ [] := by rw [he]; simp
  have hk1 : kidOf pc.1.1 c.1 = some n := by
    unfold kidOf
    rw [if_pos ⟨hne, by rw [he, List.dropLast_concat]⟩, he]
    simp
  have hk2 : ∀ q, q ≠ pc.1.1 → kidOf q c.1 = none := fun q hq => by
    unfold kidOf
    rw [if_neg]
    rintro ⟨_, z⟩
    rw [he, List.dropLast_concat] at z
    exact hq z.symm
  have ndc : (cs.map (·.2.2.2)).Nodup := by
    have := h.nd
    rw [List.map_append, List.nodup_append] at this
    exact this.1
  have ndn : c.2.2.2 ∉ cs.map (·.2.2.2) := fun z => by
    have := h.nd
    rw [List.map_append, List.nodup_append] at this
    exact this.2.2 _ z _ (by simp) rfl
  refine ⟨.inl ?_, fun e hem => ?_, h.nd⟩
  · rw [upd_ne (fun z => by
      have := h.at_
      rw [z, hkv] at this
      cases this)]
    exact h.at_
  rw [List.map_append, show [c].map (·.1) = [c.1] from rfl]
  rcases List.mem_append.mp hem with hem | hem
  · obtain ⟨e1, ⟨dx, e2⟩, kv2, e3, e4⟩ := h.cells e hem
    by_cases hq : e.2.2.2 = pc.2.2.2
    · have epc : e = pc := by
        exact nodup_inj ndc hem hp hq
      subst epc
      rw [hkv] at e3
      cases e3
      refine ⟨e1.kt kt, ⟨dx, ins e2⟩, _, upd_same, ?_⟩
      rw [kids_snoc, hk1]
      exact (e4.kt kt).snoc ⟨rfl, k, rfl, by rw [← he]; exact hk.kt kt⟩
    · refine ⟨e1.kt kt, ⟨dx, ins e2⟩, kv2, (upd_ne hq).trans e3, ?_⟩
      by_cases hp2 : e.1.1 = pc.1.1
      · exfalso
        have ndp : (cs.map (fun c : Cell => c.1.1)).Nodup := by
          have := good_nodup g
          rw [List.map_map] at this
          exact this
        exact hq (by rw [nodup_inj ndp hem hp hp2])
      · rw [kids_snoc, hk2 _ hp2]
        simpa using e4.kt kt
  · rw [List.mem_singleton.mp hem, kids_new g hf]
    obtain ⟨e1, ⟨dx, e2⟩, kv2, e3, e4⟩ := h.new
    refine ⟨e1.kt kt, ⟨dx, ins e2⟩, kv2, ?_, e4.kt kt⟩
    rw [upd_ne (fun z => ndn (by rw [z]; exact List.mem_map.mpr ⟨pc, hp, rfl⟩))]
    exact e3
end Law

set_option Elab.async false
set_option linter.all false
set_option maxRecDepth 100000
set_option maxHeartbeats 1000000
namespace Law
open PySem PySem.Spec PyProof.Rows L2 Cor
abbrev sRead : Stmt := inClass (topS 22) 1
theorem scRead : FnScope ["text", "spots", "path", "worth", "house"] ["text"] (defScope sRead) := ⟨rfl, rfl, rfl, by decide +kernel, rfl, by decide +kernel, by decide +kernel⟩
/-- the store of these rows stands at a -/
def PlainAt (P : Program) (w : World) (CP CS : Addr) (H : Hp) (a : Addr) (rs : List Rw) : Prop := ∃ dx d cs, H a = some (.ins CP dx [("spots", .ref d), ("entered", .int 0)]) ∧ Store P w CS H d cs ∧ cs.map (·.1) = rs ∧ Good rs
theorem PlainAt.same {P : Program} {w : World} {CP CS : Addr} {H H' : Hp} (s : Same H H') {a : Addr} {rs : List Rw} (h : PlainAt P w CP CS H a rs) : PlainAt P w CP CS H' a rs := let ⟨dx, d, cs, h1, h2, h3⟩ := h; ⟨dx, d, cs, s _ _ h1, h2.same s, h3⟩
def spRead (P : Program) (w : World) (CN CP CS : Addr) : Sp := fun vs H Q E => ∃ x : Str, vs = [.str x] ∧ x.length ≤ 10000 ∧ A7 x ∧ (∀ n, readRows (Txt.split x "\n") [] = .inl n → ∀ d H', Same H H' → H' d = some (.xd [("row", .int (n : Nat))]) → E (.ref CN) (some d) H') ∧
  (∀ rs, readRows (Txt.split x "\n") [] = .inr rs → ∀ a H', Same H H' → PlainAt P w CP CS H' a rs → Q (.ref a) H')
theorem read_len : ∀ (rows : List Str) (found rs : List Rw), readRows rows found = .inr rs → rs.length = found.length + rows.length
  | [], found, rs, e => by cases e; rfl
  | row :: rest, found, rs, e => by
    have e : (match rowT row with | some r => if fits found r then readRows rest (found ++ [r]) else .inl found.length | none => .inl found.length) = Sum.inr rs := e
    cases hr : rowT row with
    | none => rw [hr] at e; cases e
    | some r =>
      rw [hr] at e
      have e : (if fits found r then readRows rest (found ++ [r]) else .inl found.length) = Sum.inr rs := e
      by_cases hf : fits found r
      · rw [if_pos hf] at e
        have := read_len rest _ rs e
        rw [this, List.length_append, List.length_singleton, List.length_cons]
        omega
      · rw [if_neg hf] at e
        cases e
theorem read_mem : ∀ (rows : List Str) (found rs : List Rw), readRows rows found = .inr rs → ∀ r ∈ rs, r ∈ found ∨ ∃ row ∈ rows, rowT row = some r
  | [], found, rs, e, r, hr => by cases e; exact .inl hr
  | row :: rest, found, rs, e, r, hm => by
    have e : (match rowT row with | some r => if fits found r then readRows rest (found ++ [r]) else .inl found.length | none => .inl found.length) = Sum.inr rs := e
    cases hr : rowT row with
    | none => rw [hr] at e; cases e
    | some r' =>
      rw [hr] at e
      have e : (if fits found r' then readRows rest (found ++ [r']) else .inl found.length) = Sum.inr rs := e
      by_cases hf : fits found r'
      · rw [if_pos hf] at e
        rcases read_mem rest _ rs e r hm with h | ⟨row', h1, h2⟩
        · rcases List.mem_append.mp h with h | h
          · exact .inl h
          · rw [List.mem_singleton.mp h]
            exact .inr ⟨row, List.mem_cons_self, hr⟩
        · exact .inr ⟨row', List.mem_cons_of_mem _ h1, h2⟩
      · rw [if_neg hf] at e
        cases e
theorem row_parts {row : Str} {r : Rw} (h : rowT row = some r) : ∃ a b : Str, Txt.split row " " = [a, b, ("at" : Str), r.2.2] ∧ pathT a = some r.1 ∧ numT b = some r.2.1 ∧ nameB r.2.2 = true := by
  unfold rowT at h
  split at h
  · rename_i a b c d hs
    split at h
    · rename_i hc
      cases hp : pathT a with
      | none => rw [hp] at h; cases h
      | some p =>
        cases hn : numT b with
        | none => rw [hp, hn] at h; cases h
        | some n =>
          rw [hp, hn] at h
          cases h
          exact ⟨a, b, by rw [hs, hc.1], hp, hn, hc.2⟩
    · cases h
  · cases h
theorem read_a7 {x : Str} (h7 : A7 x) {rs : List Rw} (h : readRows (Txt.split x "\n") [] = .inr rs) : ∀ r ∈ rs, ∀ n ∈ r.1, A7 n := fun r hr n hn c hc => by
  rcases read_mem _ _ _ h r hr with h | ⟨row, h1, h2⟩
  · cases h
  · obtain ⟨a, b, hs, hp, _⟩ := row_parts h2
    have ha : a ∈ Txt.split row " " := by rw [hs]; simp
    exact h7 c ((split_mem one_line h1).2.1 c ((split_mem one_blank ha).2.1 c ((path_names hp n hn).2 c hc)))
theorem getN_of : ∀ {es : List Ent} {e : Ent}, (es.map (·.1)).Nodup → e ∈ es → getN es e.1 = some e
  | x :: es, e, nd, h => by
    unfold getN
    rw [List.find?_cons]
    rw [List.map_cons, List.nodup_cons] at nd
    rcases List.mem_cons.mp h with rfl | h
    · rw [show decide (e.1 = e.1) = true from decide_eq_true rfl]
    · have : x.1 ≠ e.1 := fun z => nd.1 (List.mem_map.mpr ⟨e, h, z.symm⟩)
      rw [show decide (x.1 = e.1) = false from decide_eq_false this]
      exact getN_of nd.2 h
section
variable {P : Program} {w : World} {K : PySem.W.Frag} {mg : Str → Option Value} {base : Heap} {CN CP CS : Addr}
theorem ok_read {f fs : Addr} {fd : FuncData} (F : Fun K "read" "Plain.read" sRead f fd) (T : GloP K mg) (WS : MkS P w K mg base CS) (WP : MkP P w K mg base CP) (ms : MdX P w K mg base 4 fs (spStart CN)) (hms : mg "start_rows" = some (.ref fs)) : FnOk P w K mg base (L2.CX P w) 5 f fd ["text"] (spRead P w CN CP CS) := by
  refine F.okX scRead (k := 4) (fun vs H Q E h => ?_) (fun cdv A outer s H vs Q E hr h => ?_)
  · obtain ⟨x, rfl, _⟩ := h
    rfl
  · obtain ⟨x, rfl, hl, h7, qE, qR⟩ := h
    have tk : Takes (cxOf (L2.CX P w) P w K mg base ["text", "spots", "path", "worth", "house"] "Plain.read" (defScope sRead) f cdv A outer s H E) (fun cls d _ H' => E cls d H') := takes_of rfl rfl rfl rfl
    have hu := hu_of hr
    have hu10 : (cxOf (L2.CX P w) P w K mg base ["text", "spots", "path", "worth", "house"] "Plain.read" (defScope sRead) f cdv A outer s H E).A.units + 10 < cLine := by
      have := hr.units
      show (A.deeper _).units + 10 < cLine
      omega
    refine ⟨_, (pss_cons (ps_set (i := 1) scRead.nd rfl (Or.inl rfl) pe_dnewK)
      (pss_cons (ps_for (passes_of rfl) rfl (pi_list (pe_fnW ms hr tk (by rfl) hms (pa_cons (pv 0) pa_nil))) (pg_tup rfl (pgs_cons (pg_name (i := 2) scRead.nd rfl (Or.inl rfl)) (pgs_cons (pg_name (i := 3) scRead.nd rfl (Or.inl rfl)) (pgs_cons (pg_name (i := 4) scRead.nd rfl (Or.inl rfl)) pgs_nil)))) (pss_cut (ps_asg (pe_newS WS (hr.mono (by omega)) (by rfl) (pv 3) (pv 4)) (pg_sub (pv 1) (pe_tup (pa_cons pe_int (pa_cons (pv 2) pa_nil))) (set_N hu10)))
      (pss_one (ps_if (pt_cmpR (op_neD hr.units) (pv 2) (pe_tup pa_nil) (nomark _)) (pss_one (ps_asg (pe_tup (pa_cons pe_int (pa_cons (pv 2) pa_nil))) (pg_sub (pe_fld (pe_getN hu10 (pv 1) (pe_tup (pa_cons pe_int (pa_cons (pe_slice sl_tupA (pv 2) po_none (po_some (pe_un un_neg pe_int))) pa_nil))) (fun _ _ => rfl)) rfl) (pe_ix ix_tup (pv 2) (pe_un un_neg pe_int) (fun _ _ => rfl)) (set_dict hu)))) pss_nil))))
      (pss_one (ps_ret (pe_newP WP (hr.mono (by omega)) (by rfl) (pv 1) pe_int))))), ?_⟩
    intro d nd
    have s1 := same_upd (o := .dK []) nd
    refine ⟨_, rfl, x, rfl, hl, h7, fun n hn dx H' sx e => qE n hn dx H' (fun b o z => sx b o (s1 b o z)) e, fun rs hrs L us H1 sx eL hR => ?_⟩
    have good := read_good _ _ _ Good.nil hrs
    have a7 := read_a7 h7 hrs
    have rlen : rs.length ≤ 10001 := by
      have h1 := read_len _ _ _ hrs
      have h2 := split_count one_line x
      rw [List.length_nil] at h1
      omega
    have ed1 : H1 d = some (.dK []) := sx _ _ upd_same
    have sH1 : Same H H1 := fun b o z => sx b o (s1 b o z)
    have ulen := hR.len
    refine ⟨L, rfl, ⟨_, SqL.of eL⟩, for_list (xs := us) (fun i σ H' => ∃ (cs : List Cell) (t2 t3 t4 : Option V), σ = [some (.str x), some (.ref d), t2, t3, t4] ∧ SameBut d H1 H' ∧ Store P w CS H' d cs ∧ cs.map (·.1) = rs.take i ∧ ∀ c ∈ cs, H1 c.2.2.2 = none) ?_ ?_ ?_ ?_⟩
    · exact ⟨[], _, _, _, rfl, fun _ _ _ z => z, ⟨.inr ⟨ed1, rfl⟩, (fun c hc => nomatch hc), List.nodup_nil⟩, rfl, fun c hc => nomatch hc⟩
    · rintro i σ H' _ ⟨cs, _, _, _, _, sb, _⟩
      exact SqL.of (sb _ _ (fun z => by rw [z, ed1] at eL; cases eL) eL)
    · rintro i v σ H2 hv ⟨cs, t2, t3, t4, rfl, sb, st, hcs, hdd⟩
      obtain ⟨r, hr', t, pa, rfl, et, epa⟩ := hR.get hv
      have tup2 : ∀ {b : Addr} {xs : List V}, H1 b = some (.tup xs) → H2 b = some (.tup xs) := fun {b xs} e => sb _ _ (fun z => by rw [z, ed1] at e; cases e) e
      have hfit : fits (cs.map (·.1)) r := by rw [hcs]; exact good i r hr'
      have hgood : Good (cs.map (·.1)) := by
        rw [hcs]
        intro j r' hj
        have hj2 : j < i := by
          have := (List.getElem?_eq_some_iff.mp hj).1
          rw [List.length_take] at this
          omega
        rw [List.getElem?_take_of_lt hj2] at hj
        rw [List.take_take, Nat.min_eq_left (Nat.le_of_lt hj2)]
        exact good j r' hj
      have ilt : i < rs.length := (List.getElem?_eq_some_iff.mp hr').1
      have clen : cs.length < sizeLine := by
        have := congrArg List.length hcs
        rw [List.length_map, List.length_take] at this
        exact Nat.lt_of_lt_of_le (show cs.length < 10002 by omega) (by decide)
      refine ⟨t, _, rfl, SqT.of (tup2 et), rfl, _, _, rfl, _, _, rfl, _, _, rfl, rfl, ?_⟩
      refine ⟨fun σ' H' => ∃ c : Cell, σ' = [some (.str x), some (.ref d), some (.ref pa), some (.int r.2.1), some (.str r.2.2)] ∧ c.1 = r ∧ SameBut d H1 H' ∧ Store1 P w CS H' d cs c ∧ H1 c.2.2.2 = none, ?_, ?_⟩
      · refine ⟨_, rfl, _, rfl, fun sa dd H3 s23 nsa ndd hne ⟨dx, e1⟩ e2 => ?_⟩
        refine ⟨_, rfl, _, rfl, (by show 2 ≤ sizeLine; decide), fun k nk => ?_⟩
        have s34 := same_upd (o := .tup [.int 0, .ref pa]) nk
        have ek : (upd H3 k (.tup [.int 0, .ref pa])) k = some (.tup [.int 0, .ref pa]) := upd_same
        generalize (upd H3 k (.tup [.int 0, .ref pa])) = H4 at s34 ek ⊢
        have s24 : Same H2 H4 := fun b o z => s34 b o (s23 b o z)
        have st4 := st.same s24
        have room : RoomT H4 k r.1 := ⟨pa, ek, s24 _ _ (tup2 epa)⟩
        have nd1 : H1 dd = none := by
          cases hz : H1 dd with
          | none => rfl
          | some o =>
            by_cases hq : dd = d
            · rw [hq] at ndd
              rcases st.at_ with z | ⟨z, _⟩ <;> rw [ndd] at z <;> cases z
            · rw [sb _ _ hq hz] at ndd
              cases ndd
        have hed : dd ≠ d := fun z => by
          rw [z] at ndd
          rcases st.at_ with y | ⟨y, _⟩ <;> rw [ndd] at y <;> cases y
        refine ⟨d, k, sa, cs.map entC, r.1, rfl, rfl, rfl, ?_, st4.keys, room, ?_, by rw [List.length_map]; exact clen, ?_⟩
        · exact st4.at_.imp id (fun z => ⟨z.1, by rw [z.2]; rfl⟩)
        · have := good_fresh hgood hfit
          rw [List.map_map]
          rw [List.map_map] at this
          exact this
        refine ⟨(r, k, sa, dd), rfl, rfl, fun b o nb z => ?_, ?_, nd1⟩
        · rw [upd_ne nb]
          exact s24 b o (sb b o nb z)
        · have := st4.put (c := (r, k, sa, dd)) room ⟨dx, s34 _ _ e1⟩ (s34 _ _ e2) (fun z => ?_) hed
          · rw [List.map_append] at this
            exact this
          · obtain ⟨c, hc, e⟩ := List.mem_map.mp z
            obtain ⟨_, _, kvs, h3, _⟩ := st.cells c hc
            rw [show c.2.2.2 = dd from e, ndd] at h3
            cases h3
      · rintro σ' H4 ⟨c, rfl, rfl, sb4, st4, nc⟩
        have ep4 : H4 pa = some (.tup (c.1.1.map V.str)) := sb4 _ _ (fun z => by rw [z, ed1] at epa; cases epa) epa
        have a7c : ∀ n ∈ c.1.1, A7 n := a7 c.1 (List.mem_of_getElem? hr')
        have hcs2 : (cs ++ [c]).map (·.1) = rs.take (i + 1) := by
          rw [List.map_append, hcs, List.take_succ, hr']
          rfl
        have hdd2 : ∀ e ∈ cs ++ [c], H1 e.2.2.2 = none := fun e he => by
          rcases List.mem_append.mp he with he | he
          · exact hdd e he
          · rw [List.mem_singleton.mp he]
            exact nc
        refine ⟨_, rfl, (by show 0 ≤ sizeLine; decide), fun p0 n0 => ?_⟩
        have s45 := same_upd (o := .tup []) n0
        refine ⟨pathD c.1.1, pathD [], .tup (SqT.of (s45 _ _ ep4)) (dp_strs _), .tup (SqT.of upd_same) .nil, shaped_path a7c, shaped_path (fun n hn => nomatch hn), _, rfl, ?_⟩
        rw [eqv_path]
        generalize (upd H4 p0 (.tup [])) = H5 at s45 ⊢
        have st5 := st4.same s45
        have ep5 := s45 _ _ ep4
        have sb5 : SameBut d H1 H5 := fun b o nb z => s45 b o (sb4 b o nb z)
        by_cases hroot : c.1.1 = []
        · rw [decide_eq_true hroot]
          exact ⟨cs ++ [c], _, _, _, rfl, sb5, st5.root hgood hfit hroot, hcs2, hdd2⟩
        · rw [decide_eq_false hroot]
          obtain ⟨n, hn⟩ : ∃ n, c.1.1.getLast? = some n := by
            cases hq : c.1.1.getLast? with
            | none => exact absurd (List.getLast?_eq_none_iff.mp hq) hroot
            | some n => exact ⟨n, rfl⟩
          have hpn := last_back hn
          obtain ⟨pc, hpc, epc⟩ : ∃ pc ∈ cs, pc.1.1 = c.1.1.dropLast := by
            cases hq : (cs.map (·.1)).getLast? with
            | none => exact absurd (hfit.1.mpr (List.getLast?_eq_none_iff.mp hq)) hroot
            | some l =>
              obtain ⟨a, ha, e⟩ := List.mem_map.mp (hfit.2 l hq).2
              obtain ⟨pc, hpc, rfl⟩ := List.mem_map.mp ha
              exact ⟨pc, hpc, e⟩
          have npos : 0 < c.1.1.length := List.length_pos_iff.mpr hroot
          refine ⟨_, rfl, (by show 2 ≤ sizeLine; decide), fun k2 nk2 => ?_⟩
          have s56 := same_upd (o := .tup [.int 0, .ref pa]) nk2
          have ek2 : (upd H5 k2 (.tup [.int 0, .ref pa])) k2 = some (.tup [.int 0, .ref pa]) := upd_same
          generalize (upd H5 k2 (.tup [.int 0, .ref pa])) = H6 at s56 ek2 ⊢
          have ep6 := s56 _ _ ep5
          refine ⟨_, rfl, _, rfl, _, rfl, _, rfl, pa, _, rfl, SqT.of ep6, fun hw => ?_, fun _ pb npb => ?_⟩
          · have hw2 : ((-1 : Int) + ((c.1.1.map V.str).length : Int)).toNat = (c.1.1.map V.str).length := hw.2
            rw [List.length_map] at hw2
            omega
          rw [cut_last]
          have s67 := same_upd (o := .tup (c.1.1.dropLast.map V.str)) npb
          have epb : (upd H6 pb (.tup (c.1.1.dropLast.map V.str))) pb = some (.tup (c.1.1.dropLast.map V.str)) := upd_same
          generalize (upd H6 pb (.tup (c.1.1.dropLast.map V.str))) = H7 at s67 epb ⊢
          refine ⟨(by show 2 ≤ sizeLine; decide), fun k3 nk3 => ?_⟩
          have s78 := same_upd (o := .tup [.int 0, .ref pb]) nk3
          have ek3 : (upd H7 k3 (.tup [.int 0, .ref pb])) k3 = some (.tup [.int 0, .ref pb]) := upd_same
          generalize (upd H7 k3 (.tup [.int 0, .ref pb])) = H8 at s78 ek3 ⊢
          have s58 : Same H5 H8 := fun b o z => s78 b o (s67 b o (s56 b o z))
          have st8 := st5.same s58
          have ep8 := s58 _ _ ep5
          have room3 : RoomT H8 k3 c.1.1.dropLast := ⟨pb, ek3, s78 _ _ epb⟩
          obtain ⟨_, ⟨dxp, esp⟩, kvs, ekv, hdoors⟩ := st8.cells pc hpc
          have ndp : (((cs ++ [c]).map entC).map (·.1)).Nodup := by
            have h1 := good_nodup (hgood.snoc hfit)
            rw [show cs.map (·.1) ++ [c.1] = (cs ++ [c]).map (·.1) from by rw [List.map_append]; rfl, List.map_map] at h1
            rw [List.map_map]
            exact h1
          refine ⟨d, k3, (cs ++ [c]).map entC, c.1.1.dropLast, entC pc, rfl, rfl, st8.at_, st8.keys, room3, ?_, ?_⟩
          · rw [← epc]
            exact getN_of (e := entC pc) ndp (List.mem_map.mpr ⟨pc, List.mem_append_left _ hpc, rfl⟩)
          refine ⟨pc.2.2.1, CS, dxp, _, _, rfl, esp, WS.cl, WS.n3, rfl, ?_⟩
          refine ⟨_, rfl, _, rfl, pa, _, _, _, rfl, rfl, SqT.of ep8, atI_last (v := .str n) ?_, ?_⟩
          · rw [List.length_map, List.getElem?_map, ← List.getLast?_eq_getElem?, hn]
            rfl
          have klen : kvs.length < sizeLine := by
            have h1 := congrArg List.length hdoors.keys
            rw [List.length_map, List.length_map] at h1
            have h2 : (kids pc.1.1 (cs.map (·.1))).length ≤ (cs.map (·.1)).length := List.length_filterMap_le _ _
            rw [List.length_map] at h2
            omega
          refine ⟨pc.2.2.2, _, rfl, DPut.k (k := Sum.inr n) ekv klen, ?_⟩
          have fin := st8.door (n := n) (k := k2) hgood hfit hpc (by rw [epc]; exact hpn) ⟨pa, s78 _ _ (s67 _ _ ek2), ep8⟩ ekv
          refine ⟨cs ++ [c], _, _, _, rfl, fun b o nb z => ?_, fin, hcs2, hdd2⟩
          rw [upd_ne (fun e => by
            have := hdd pc hpc
            rw [← e, z] at this
            cases this)]
          exact s58 b o (sb5 b o nb z)
    · rintro σ H' ⟨cs, _, _, _, rfl, sb, st, hcs, _⟩
      rw [ulen, List.take_length] at hcs
      refine ⟨_, rfl, fun a H'' sy na ⟨dx, e⟩ => ?_⟩
      have sHx : Same H H'' := fun b o z => sy b o (sb b o (ne_of_none z nd) (sH1 b o z))
      exact qR rs hrs a H'' sHx ⟨dx, d, cs, e, st.same sy, hcs, good⟩
end
end Law

set_option Elab.async false
set_option linter.all false
set_option maxRecDepth 100000
set_option maxHeartbeats 1000000
namespace Law
open PySem PySem.Spec PyProof.Rows L2 Cor
/-! ### the places below a room -/
def PairAt (H : Hp) (v : V) (q : List Str) : Prop := ∃ t pa k, v = .ref t ∧ H t = some (.tup [.ref pa, .ref k]) ∧ H pa = some (.tup (q.map V.str)) ∧ RoomT H k q
inductive PairsAt (H : Hp) : List V → List (List Str) → Prop
  | nil : PairsAt H [] []
  | cons {v : V} {vs : List V} {r : List Str} {rs : List (List Str)} : PairAt H v r → PairsAt H vs rs → PairsAt H (v :: vs) (r :: rs)
theorem PairAt.kt {H H' : Hp} (k : Kt H H') {v : V} {r : List Str} (h : PairAt H v r) : PairAt H' v r := let ⟨t, pa, kk, e, h1, h2, h3⟩ := h; ⟨t, pa, kk, e, k _ _ h1, k _ _ h2, h3.kt k⟩
theorem PairsAt.kt {H H' : Hp} (k : Kt H H') {vs : List V} {rs : List (List Str)} (h : PairsAt H vs rs) : PairsAt H' vs rs := by
  induction h with
  | nil => exact .nil
  | cons a _ ih => exact .cons (a.kt k) ih
theorem PairsAt.snoc {H : Hp} {vs : List V} {rs : List (List Str)} {v : V} {r : List Str} (h : PairsAt H vs rs) (a : PairAt H v r) : PairsAt H (vs ++ [v]) (rs ++ [r]) := by
  induction h with
  | nil => exact .cons a .nil
  | cons b _ ih => exact .cons b ih
theorem PairsAt.len {H : Hp} {vs : List V} {rs : List (List Str)} (h : PairsAt H vs rs) : vs.length = rs.length := by
  induction h with
  | nil => rfl
  | cons _ _ ih => rw [List.length_cons, List.length_cons, ih]
theorem PairsAt.get {H : Hp} {vs : List V} {rs : List (List Str)} (h : PairsAt H vs rs) {i : Nat} {v : V} (hv : vs[i]? = some v) : ∃ r, rs[i]? = some r ∧ PairAt H v r := by
  induction h generalizing i with
  | nil => cases hv
  | @cons u us r rs a _ ih =>
    cases i with
    | zero => cases hv; exact ⟨r, rfl, a⟩
    | succ i => exact ih hv
theorem parent_mem {rs : List Rw} (h : Good rs) {r : Rw} (hr : r ∈ rs) (hne : r.1 ≠ []) : r.1.dropLast ∈ rs.map (·.1) := by
  obtain ⟨i, hi⟩ := List.mem_iff_getElem?.mp hr
  have fa := h i r hi
  cases hl : (rs.take i).getLast? with
  | none => exact absurd (fa.1.mpr (List.getLast?_eq_none_iff.mp hl)) hne
  | some l =>
    obtain ⟨a, ha, e⟩ := List.mem_map.mp (fa.2 l hl).2
    exact List.mem_map.mpr ⟨a, List.mem_of_mem_take ha, e⟩
theorem prefix_mem {rs : List Rw} (h : Good rs) : ∀ (n : Nat) (a b : List Str), b.length = n → a ++ b ∈ rs.map (·.1) → a ∈ rs.map (·.1)
  | 0, a, b, hb, hm => by
    rw [List.length_eq_zero_iff.mp hb, List.append_nil] at hm
    exact hm
  | n + 1, a, b, hb, hm => by
    have hne : b ≠ [] := fun z => by rw [z] at hb; cases hb
    obtain ⟨r, hr, e⟩ := List.mem_map.mp hm
    have := parent_mem h hr (by rw [e]; exact fun z => hne (List.append_eq_nil_iff.mp z).2)
    rw [e, List.dropLast_append_of_ne_nil hne] at this
    exact prefix_mem h n a b.dropLast (by rw [List.length_dropLast]; omega) this
theorem kids_iff {rs : List Rw} {p : List Str} {n : Str} : n ∈ kids p rs ↔ p ++ [n] ∈ rs.map (·.1) := by
  refine ⟨fun h => ?_, fun h => ?_⟩
  · obtain ⟨r, hr, e⟩ := mem_kids h
    exact List.mem_map.mpr ⟨r, hr, e⟩
  · obtain ⟨r, hr, e⟩ := List.mem_map.mp h
    refine List.mem_filterMap.mpr ⟨r, hr, ?_⟩
    unfold kidOf
    rw [e, if_pos ⟨by simp, List.dropLast_concat⟩]
    simp
theorem kids_sub (p : List Str) : ∀ rs : List Rw, ((kids p rs).map (fun n => p ++ [n])).Sublist (rs.map (·.1))
  | [] => .slnil
  | r :: rs => by
    unfold kids
    rw [List.filterMap_cons]
    cases hk : kidOf p r with
    | none => exact (kids_sub p rs).cons _
    | some n =>
      have e : p ++ [n] = r.1 := by
        unfold kidOf at hk
        split at hk
        · rename_i hc
          rw [last_back hk, hc.2]
        · cases hk
      show ((p ++ [n]) :: (kids p rs).map (fun n => p ++ [n])).Sublist (r.1 :: rs.map (·.1))
      rw [e]
      exact (kids_sub p rs).cons₂ _
theorem kids_nodup {rs : List Rw} (h : Good rs) (p : List Str) : (kids p rs).Nodup := by
  have h1 : ((kids p rs).map (fun n => p ++ [n])).Nodup := (good_nodup h).sublist (kids_sub p rs)
  exact (List.Pairwise.of_map (fun n => p ++ [n]) (fun a b hab z => hab (by rw [z])) h1)
theorem nodup_len {α : Type} [DecidableEq α] : ∀ {qs ps : List α}, qs.Nodup → (∀ q ∈ qs, q ∈ ps) → qs.length ≤ ps.length
  | [], _, _, _ => Nat.zero_le _
  | q :: qs, ps, nd, h => by
    rw [List.nodup_cons] at nd
    have hq := h q List.mem_cons_self
    have := nodup_len (ps := ps.erase q) nd.2 fun x hx => (List.mem_erase_of_ne (fun z => nd.1 (by rw [← z]; exact hx))).mpr (h x (List.mem_cons_of_mem _ hx))
    rw [List.length_erase_of_mem hq] at this
    have : 0 < ps.length := List.length_pos_of_mem hq
    rw [List.length_cons]
    omega
theorem DoorsAt.val {H : Hp} {p : List Str} {kvs : List (L2.Key × V)} {ns : List Str} (h : DoorsAt H p kvs ns) {n : Str} (hn : n ∈ ns) : ∃ k, valV kvs (Sum.inr n) = some (.ref k) ∧ RoomT H k (p ++ [n]) := by
  induction h with
  | nil => exact nomatch hn
  | @cons kv kvs m ns a _ ih =>
    obtain ⟨e, k, e2, r⟩ := a
    unfold valV
    rw [List.find?_cons]
    by_cases hq : m = n
    · rw [show decide (kv.1 = Sum.inr n) = true from decide_eq_true (by rw [e, hq])]
      refine ⟨k, ?_, by rw [← hq]; exact r⟩
      show some kv.2 = _
      rw [e2]
    · rw [show decide (kv.1 = Sum.inr n) = false from decide_eq_false (by rw [e]; exact fun z => hq (Sum.inr.inj z))]
      exact ih ((List.mem_cons.mp hn).elim (fun z => absurd z.symm hq) id)
theorem PairsAt.append {H : Hp} {vs us : List V} {rs qs : List (List Str)} (h : PairsAt H vs rs) (h2 : PairsAt H us qs) : PairsAt H (vs ++ us) (rs ++ qs) := by
  induction h with
  | nil => exact h2
  | cons a _ ih => exact .cons a ih
theorem pre_eq {p q : List Str} {n m : Str} (h1 : p ++ [n] <+: q) (h2 : p ++ [m] <+: q) : n = m := by
  obtain ⟨t, e1⟩ := h1
  obtain ⟨t', e2⟩ := h2
  rw [← e2, List.append_assoc, List.append_assoc] at e1
  have := List.append_cancel_left e1
  exact (List.cons.inj this).1
theorem not_take {α : Type} {ys : List α} {i : Nat} {n : α} (nd : ys.Nodup) (h : ys[i]? = some n) : n ∉ ys.take i := fun hm => by
  have hlt := (List.getElem?_eq_some_iff.mp h).1
  have e := List.take_append_drop i ys
  rw [← e, List.nodup_append] at nd
  refine nd.2.2 n hm n ?_ rfl
  rw [List.drop_eq_getElem_cons hlt, (List.getElem?_eq_some_iff.mp h).2]
  exact List.mem_cons_self
abbrev sBelow : Stmt := topS 21
theorem scBelow : FnScope ["spots", "path", "room", "doors", "deeper", "name", "place"] ["spots", "path", "room"] (defScope sBelow) := ⟨rfl, rfl, rfl, by decide +kernel, rfl, by decide +kernel, by decide +kernel⟩
def pathsC (cs : List Cell) : List (List Str) := cs.map fun c => c.1.1
def spBelow (P : Program) (w : World) (CS : Addr) (m : Nat) : Sp := fun vs H Q _ => ∃ (d pa k : Addr) (cs : List Cell) (p : List Str), vs = [.ref d, .ref pa, .ref k] ∧ Store P w CS H d cs ∧ Good (cs.map (·.1)) ∧ cs.length ≤ 60 ∧ H pa = some (.tup (p.map V.str)) ∧ RoomT H k p ∧ p ∈ pathsC cs ∧ (∀ q ∈ pathsC cs, q.length < p.length + m) ∧ p.length + m ≤ 20000 ∧
  ∀ L us H' qs, H L = none → Same H H' → H' L = some (.lst us) → PairsAt H' us qs → qs.Nodup → (∀ q, q ∈ qs ↔ q ∈ pathsC cs ∧ p <+: q) → Q (.ref L) H'
section
variable {P : Program} {w : World} {K : PySem.W.Frag} {mg : Str → Option Value} {base : Heap} {CS : Addr}
theorem ok_below {f : Addr} {fd : FuncData} (F : Fun K "places_below" "places_below" sBelow f fd) (T : GloP K mg) (WS : ClS K mg CS) (hm : mg "places_below" = some (.ref f)) :
    ∀ m, FnOk P w K mg base CX0 (1 + m) f fd ["spots", "path", "room"] (spBelow P w CS m)
  | 0 => by
    refine F.ok scBelow (k := 0) (fun vs H Q E h => ?_) (fun cdv A outer s H vs Q E hr h => ?_)
    · obtain ⟨d, pa, k, cs, p, rfl, _⟩ := h
      rfl
    · obtain ⟨d, pa, k, cs, p, rfl, _, _, _, _, _, hp, hlen, _⟩ := h
      exact absurd (hlen p hp) (by omega)
  | m + 1 => by
    have ih : Df P w K mg base "places_below" (1 + m) ["spots", "path", "room"] (spBelow P w CS m) := ⟨f, fd, ok_below F T WS hm m, hm, F.kp, F.binds (fun _ _ _ _ _ _ us hl => match us, hl with | [_, _, _], _ => rfl)⟩
    refine F.ok scBelow (k := 1 + m) (fun vs H Q E h => ?_) (fun cdv A outer s H vs Q E hr h => ?_)
    · obtain ⟨d, pa, k, cs, p, rfl, _⟩ := h
      rfl
    · obtain ⟨d, pa, k, cs, p, rfl, st, good, c60, epa, room, hp, hlen, hM, q⟩ := h
      have hu := hu_of hr
      have hu10 : (cxOf CX0 P w K mg base ["spots", "path", "room", "doors", "deeper", "name", "place"] "places_below" (defScope sBelow) f cdv A outer s H E).nox.A.units + 10 < cLine := by
        have := hr.units
        show (A.deeper _).units + 10 < cLine
        omega
      refine ⟨_, (pss_cons (ps_set (i := 3) scBelow.nd rfl (Or.inr rfl) (pe_fld (pe_getN hu10 (pv 0) (pv 2) (fun _ _ => rfl)) rfl))
      (pss_cons (ps_setLc2 (i := 4) (own := [("name", 5), ("place", 6)]) (vs1 := [6]) (g := gName 5) (g1 := gName 6) (wi1 := iList K (tCall (spBelow P w CS m) [] E0 (tCons (tVar 0) (tCons (tTup (StX.tStar K (tVar 1) (tCons (tVar 5) tNil))) (tCons (tDGet (tVar 3) (tVar 5)) tNil))))) (by rfl) scBelow.nd rfl rfl (sw_true rfl rfl rfl (by decide +kernel)) (pi_list (pe_callB (call_sortedD rfl) (by rfl) T.sorted (by decide +kernel) (pa_cons (pv 3) pa_nil))) (blkOk_by (own := [("name", 5), ("place", 6)]) (N := ["spots", "path", "room", "doors", "deeper", "name", "place"]) (sc := defScope sBelow) (by decide +kernel)) (by decide) (fun _ _ _ _ _ => (pg_name (i := 5) scBelow.nd rfl (Or.inl rfl))) (fun _ _ _ _ _ => pts_nil) (fun _ _ _ _ _ => (pi_list (pe_df (E := E0) ih hr (by rfl) (pa_cons (pv 0) (pa_cons (pe_tup (StX.pa_star (pv 1) (pa_cons (pv 5) pa_nil))) (pa_cons (pe_dget hu (pv 3) (pv 5) (fun _ _ => rfl)) pa_nil)))))) (fun _ _ _ _ _ => (pg_name (i := 6) scBelow.nd rfl (Or.inl rfl))) (fun _ _ _ _ _ => pts_nil) (fun _ _ _ _ _ => (pv 6)))
      (pss_one (ps_ret (pe_lst (pa_cons (pe_tup (pa_cons (pv 1) (pa_cons (pv 2) pa_nil))) (StX.pa_star (pv 4) pa_nil))))))), ?_⟩
      obtain ⟨c, hc, ecp⟩ := List.mem_map.mp hp
      have epaths : pathsC cs = (cs.map (·.1)).map (·.1) := by unfold pathsC; rw [List.map_map]; rfl
      have at0 : H d = some (DN P w d (cs.map entC)) := st.at_.elim id fun z => by rw [z.2] at hc; cases hc
      have ndp : ((cs.map entC).map (·.1)).Nodup := by
        have h1 := good_nodup good
        rw [List.map_map] at h1 ⊢
        exact h1
      obtain ⟨_, ⟨dxp, esp⟩, kvs, ekv, hdoors⟩ := st.cells c hc
      have ecp : c.1.1 = p := ecp
      rw [ecp] at hdoors
      refine ⟨_, rfl, _, rfl, d, k, cs.map entC, p, entC c, rfl, rfl, at0, st.keys, room, ?_, c.2.2.1, CS, dxp, _, _, rfl, esp, WS.cl, WS.n3, rfl, ?_⟩
      · rw [← ecp]
        exact getN_of (e := entC c) ndp (List.mem_map.mpr ⟨c, hc, rfl⟩)
      have klen : (kids p (cs.map (·.1))).length < 64 := by
        have h2 : (kids p (cs.map (·.1))).length ≤ (cs.map (·.1)).length := List.length_filterMap_le _ _
        rw [List.length_map] at h2
        omega
      refine ⟨_, rfl, c.2.2.2, kvs, kids p (cs.map (·.1)), rfl, .inl ekv, hdoors.keys, klen, fun ys S perm srt nS => ?_⟩
      have s12 := same_upd (o := .lst (ys.map V.str)) nS
      have eS : (upd H S (.lst (ys.map V.str))) S = some (.lst (ys.map V.str)) := upd_same
      generalize (upd H S (.lst (ys.map V.str))) = H2 at s12 eS ⊢
      have ynd : ys.Nodup := (perm.nodup_iff).mpr (kids_nodup good p)
      have ymem : ∀ n, n ∈ ys ↔ p ++ [n] ∈ pathsC cs := fun n => by rw [perm.mem_iff, kids_iff, epaths]
      have cl60 : (pathsC cs).length ≤ 60 := by unfold pathsC; rw [List.length_map]; exact c60
      refine ⟨S, rfl, ⟨_, SqL.of eS⟩, fun D nD => ?_⟩
      have nSD : S ≠ D := fun z => by rw [← z, eS] at nD; cases nD
      refine ⟨fun i mm H' => mm = ys.length - i ∧ i ≤ ys.length ∧ SameBut D H2 H' ∧ ∃ acc qs, H' D = some (.lst acc) ∧ PairsAt H' acc qs ∧ qs.Nodup ∧ ∀ q, q ∈ qs ↔ q ∈ pathsC cs ∧ ∃ n ∈ ys.take i, p ++ [n] <+: q, ⟨ys.length, by simp, Nat.zero_le _, Cor.Same.but (same_upd nD), [], [], upd_same, .nil, List.nodup_nil, fun q => by simp⟩, ?_⟩
      rintro i mm H3 ⟨rfl, hi, sb, acc, qs, eD, hP, qnd, qmem⟩
      have eS3 : SqL K H3 S (ys.map V.str) := SqL.of (sb _ _ nSD eS)
      rcases Nat.lt_or_ge i ys.length with hlt | hge
      · right
        refine ⟨(walk_list (K := K) (a := S) (xs := ys.map V.str)).goes i H3 (by rw [List.length_map]; exact hlt) eS3, fun H' => SameBut D H2 H' ∧ ∃ acc qs, H' D = some (.lst acc) ∧ PairsAt H' acc qs ∧ qs.Nodup ∧ ∀ q, q ∈ qs ↔ q ∈ pathsC cs ∧ ∃ n ∈ ys.take (i + 1), p ++ [n] <+: q, fun H' h => ⟨ys.length - (i + 1), by omega, rfl, hlt, h⟩, ?_⟩
        intro v H4 hy
        obtain ⟨rfl, hv⟩ := (walk_list (K := K) (a := S) (xs := ys.map V.str)).yields i H3 v H4 (by rw [List.length_map]; exact hlt) eS3 hy
        rw [List.getElem?_map] at hv
        obtain ⟨n, hn, rfl⟩ := Option.map_eq_some_iff.mp hv
        refine ⟨rfl, ?_⟩
        have s04 : Same H H4 := fun b o z => sb b o (ne_of_none (s12 b o z) nD) (s12 b o z)
        have hny : n ∈ ys := List.mem_of_getElem? hn
        have hnp : p ++ [n] ∈ pathsC cs := (ymem n).mp hny
        obtain ⟨kr, hval, hroom⟩ := (hdoors.kt (kt_same s04)).val (perm.mem_iff.mp hny)
        refine ⟨_, rfl, _, rfl, pa, _, rfl, .inl (SqT.of (s04 _ _ epa)), _, rfl, ?_, fun pb npb => ?_⟩
        · rw [List.length_append, List.length_map, List.length_singleton]
          exact Nat.le_trans (show p.length + 1 ≤ 20001 by omega) (by decide)
        have s45 := same_upd (o := .tup (p.map V.str ++ [.str n])) npb
        have epb : (upd H4 pb (.tup (p.map V.str ++ [.str n]))) pb = some (.tup ((p ++ [n]).map V.str)) := by rw [upd_same, List.map_append]; rfl
        generalize (upd H4 pb (.tup (p.map V.str ++ [.str n]))) = H5 at s45 epb ⊢
        have s05 : Same H H5 := fun b o z => s45 b o (s04 b o z)
        refine ⟨_, rfl, _, rfl, c.2.2.2, .ref kr, rfl, ?_, ?_⟩
        · have := DGet.k (k := Sum.inr n) (s05 _ _ ekv)
          rw [hval] at this
          exact this
        refine ⟨d, pb, kr, cs, p ++ [n], rfl, st.same s05, good, c60, epb, hroom.kt (kt_same s45), hnp, fun q hq => ?_, (by rw [List.length_append, List.length_singleton]; omega), fun L us1 H6 qs1 nL5 s56 eL hP1 nd1 mem1 => ?_⟩
        · have := hlen q hq
          rw [List.length_append, List.length_singleton]
          omega
        have s46 : Same H4 H6 := fun b o z => s56 b o (s45 b o z)
        have eD6 := s46 _ _ eD
        have hP6 := hP.kt (kt_same s46)
        have nLD : L ≠ D := fun z => by
          rw [z, s45 _ _ eD] at nL5
          cases nL5
        refine ⟨L, rfl, ⟨_, SqL.of eL⟩, fun j kk H' => kk = us1.length - j ∧ j ≤ us1.length ∧ SameBut D H6 H' ∧ H' D = some (.lst (acc ++ us1.take j)), ⟨us1.length, by simp, Nat.zero_le _, fun _ _ _ z => z, by rw [List.take_zero, List.append_nil]; exact eD6⟩, ?_⟩
        have qlen : qs.length ≤ 60 := Nat.le_trans (nodup_len qnd fun q hq => ((qmem q).mp hq).1) cl60
        have q1len : qs1.length ≤ 60 := Nat.le_trans (nodup_len nd1 fun q hq => ((mem1 q).mp hq).1) cl60
        have alen := hP.len
        have ulen1 := hP1.len
        rintro j kk H7 ⟨rfl, hj, sb7, eD7⟩
        have eL7 : SqL K H7 L us1 := SqL.of (sb7 _ _ nLD eL)
        have kt67 : Kt H6 H7 := fun b xs e => sb7 _ _ (fun z => by rw [z, eD6] at e; cases e) e
        rcases Nat.lt_or_ge j us1.length with hjl | hjg
        · right
          refine ⟨(walk_list (K := K) (a := L) (xs := us1)).goes j H7 hjl eL7, fun H' => SameBut D H6 H' ∧ H' D = some (.lst (acc ++ us1.take (j + 1))), fun H' h => ⟨us1.length - (j + 1), by omega, rfl, hjl, h⟩, ?_⟩
          intro v H8 hy
          obtain ⟨rfl, hv⟩ := (walk_list (K := K) (a := L) (xs := us1)).yields j H7 v H8 hjl eL7 hy
          refine ⟨rfl, _, rfl, _, eD7, ?_, fun b o nb z => ?_, ?_⟩
          · rw [List.length_append, List.length_take]
            exact Nat.lt_of_le_of_lt (show acc.length + min j us1.length ≤ 120 by omega) (by decide)
          · rw [upd_ne nb]
            exact sb7 b o nb z
          · rw [upd_same, List.take_succ, hv, List.append_assoc]
            rfl
        · left
          have hje : j = us1.length := by omega
          subst hje
          refine ⟨(walk_list (K := K) (a := L) (xs := us1)).stops H7 eL7, fun b o nb z => sb7 b o nb (s46 b o (sb b o nb z)), acc ++ us1, qs ++ qs1, ?_, ?_, ?_, fun q => ?_⟩
          · rw [List.take_length] at eD7
            exact eD7
          · exact (hP6.kt kt67).append (hP1.kt kt67)
          · rw [List.nodup_append]
            refine ⟨qnd, nd1, fun a ha b hb => ?_⟩
            rintro rfl
            obtain ⟨_, n', hn', pre'⟩ := (qmem a).mp ha
            obtain ⟨_, pre⟩ := (mem1 a).mp hb
            have := pre_eq pre pre'
            rw [← this] at hn'
            exact not_take ynd hn hn'
          · rw [List.mem_append, qmem, mem1, List.take_succ, hn]
            constructor
            · rintro (⟨h1, n', h2, h3⟩ | ⟨h1, h2⟩)
              · exact ⟨h1, n', List.mem_append_left _ h2, h3⟩
              · exact ⟨h1, n, List.mem_append_right _ (by simp), h2⟩
            · rintro ⟨h1, n', h2, h3⟩
              rcases List.mem_append.mp h2 with h2 | h2
              · exact .inl ⟨h1, n', h2, h3⟩
              · have : n' = n := by simpa using h2
                rw [this] at h3
                exact .inr ⟨h1, h3⟩
      · left
        have hie : i = ys.length := by omega
        subst hie
        rw [List.take_length] at qmem
        have s03 : Same H H3 := fun b o z => sb b o (ne_of_none (s12 b o z) nD) (s12 b o z)
        have est := (walk_list (K := K) (a := S) (xs := ys.map V.str)).stops H3 eS3
        rw [List.length_map] at est
        refine ⟨est, _, rfl, _, rfl, (by show 2 ≤ sizeLine; decide), fun t nt => ?_⟩
        have s34 := same_upd (o := .tup [.ref pa, .ref k]) nt
        have et : (upd H3 t (.tup [.ref pa, .ref k])) t = some (.tup [.ref pa, .ref k]) := upd_same
        generalize (upd H3 t (.tup [.ref pa, .ref k])) = H4 at s34 et ⊢
        have s04 : Same H H4 := fun b o z => s34 b o (s03 b o z)
        have qlen : qs.length ≤ 60 := Nat.le_trans (nodup_len qnd fun q hq => ((qmem q).mp hq).1) cl60
        have alen := hP.len
        refine ⟨_, rfl, D, acc, rfl, .inr (SqL.of (s34 _ _ eD)), ?_, fun L nL => ?_⟩
        · rw [List.length_cons, List.append_nil]
          exact Nat.le_trans (show acc.length + 1 ≤ 61 by omega) (by decide)
        have s45 := same_upd (o := .lst (.ref t :: (acc ++ []))) nL
        have s05 : Same H (upd H4 L (.lst (.ref t :: (acc ++ [])))) := fun b o z => s45 b o (s04 b o z)
        have nL0 : H L = none := by
          cases hz : H L with
          | none => rfl
          | some o => rw [s04 _ _ hz] at nL; cases nL
        refine q L (.ref t :: (acc ++ [])) _ (p :: qs) nL0 s05 upd_same ?_ ?_ fun q => ?_
        · rw [List.append_nil]
          rw [List.append_nil] at s45
          exact .cons ⟨t, pa, k, rfl, s45 _ _ et, s45 _ _ (s04 _ _ epa), room.kt (kt_same (fun b o z => s45 b o (s04 b o z)))⟩ (hP.kt (kt_same fun b o z => s45 b o (s34 b o z)))
        · rw [List.nodup_cons]
          refine ⟨fun z => ?_, qnd⟩
          obtain ⟨_, n, _, t', e⟩ := (qmem p).mp z
          have := congrArg List.length e
          rw [List.length_append, List.length_append, List.length_singleton] at this
          omega
        · rw [List.mem_cons, qmem]
          constructor
          · rintro (rfl | ⟨h1, n, _, h2⟩)
            · exact ⟨hp, List.prefix_refl _⟩
            · exact ⟨h1, (List.prefix_append _ _).trans h2⟩
          · rintro ⟨h1, r, e⟩
            cases r with
            | nil => rw [List.append_nil] at e; exact .inl e.symm
            | cons n r =>
              right
              have e2 : (p ++ [n]) ++ r = q := by rw [List.append_assoc]; exact e
              refine ⟨h1, n, (ymem n).mpr ?_, ⟨r, e2⟩⟩
              rw [epaths]
              refine prefix_mem good r.length (p ++ [n]) r rfl ?_
              rw [e2, ← epaths]
              exact h1
end
end Law

set_option Elab.async false
set_option linter.all false
set_option maxRecDepth 100000
set_option maxHeartbeats 1000000
namespace Law
open PySem PySem.Spec PyProof.Rows L2 Cor
/-! ### sorted(places) -/
/-- the data of (path, (0, path)) -/
def pairD (q : List Str) : PyData := .tuple [pathD q, .tuple [.int 0, pathD q]]
theorem alike_strs : ∀ a b : List Str, PySem.W.alikeAll (strsD a) (strsD b) = true
  | [], _ => by unfold strsD; simp [PySem.W.alikeAll]
  | _ :: _, [] => by unfold strsD; simp [PySem.W.alikeAll]
  | x :: a, y :: b => by
    show PySem.W.alikeAll (.str x :: strsD a) (.str y :: strsD b) = true
    rw [PySem.W.alikeAll, alike_strs a b]
    simp [PySem.W.alike]
theorem alike_path (a b : List Str) : PySem.W.alike (pathD a) (pathD b) = true := by
  unfold pathD
  rw [PySem.W.alike]
  exact alike_strs a b
theorem alike_pair (a b : List Str) : PySem.W.alike (pairD a) (pairD b) = true := by
  unfold pairD
  rw [PySem.W.alike, PySem.W.alikeAll, PySem.W.alikeAll, alike_path, PySem.W.alike, PySem.W.alikeAll, PySem.W.alikeAll, alike_path]
  simp [PySem.W.alike, PySem.W.alikeAll]
theorem lt_strs : ∀ a b : List Str, PyProof.Rows.lexLt PyProof.Rows.itemOrd (PySem.W.keyToksAll (strsD b)) (PySem.W.keyToksAll (strsD a)) = !pathLe a b
  | [], b => by
    cases b with
    | nil => exact PyProof.Rows.lex_irrefl _
    | cons y b =>
      show PyProof.Rows.lexLt PyProof.Rows.itemOrd (PySem.W.keyToksAll (.str y :: strsD b)) (PySem.W.keyToksAll []) = _
      rw [PySem.W.toks_all_cons]
      simp only [PySem.W.keyToksAll]
      rw [PyProof.Rows.lex_diff (O := PyProof.Rows.itemOrd) (by simp)]
      simp [PyProof.Rows.itemLt, PyProof.Rows.itemOrd, pathLe]
  | x :: a, [] => by
    show PyProof.Rows.lexLt PyProof.Rows.itemOrd (PySem.W.keyToksAll []) (PySem.W.keyToksAll (.str x :: strsD a)) = _
    rw [PySem.W.toks_all_cons]
    simp only [PySem.W.keyToksAll]
    rw [PyProof.Rows.lex_diff (O := PyProof.Rows.itemOrd) (by simp)]
    simp [PyProof.Rows.itemLt, PyProof.Rows.itemOrd, pathLe]
  | x :: a, y :: b => by
    show PyProof.Rows.lexLt PyProof.Rows.itemOrd (PySem.W.keyToksAll (.str y :: strsD b)) (PySem.W.keyToksAll (.str x :: strsD a)) = !(if x = y then pathLe a b else leS x y)
    rw [PySem.W.dataLt_cons (by simp [PySem.W.alike])]
    by_cases e : x = y
    · subst e
      rw [if_pos rfl, show PyData.eqv (.str x) (.str x) = true from by show (x == x) = true; exact beq_self_eq_true x, if_pos rfl]
      exact lt_strs a b
    · rw [if_neg e, show PyData.eqv (.str y) (.str x) = false from beq_eq_false_iff_ne.mpr (Ne.symm e), if_neg Bool.false_ne_true, PySem.W.dataLt_str]
      unfold leS
      rw [Bool.not_not]
theorem lt_path (a b : List Str) : PySem.W.dataLt (pathD b) (pathD a) = !pathLe a b := by
  unfold pathD
  rw [PySem.W.dataLt_tuple]
  exact lt_strs a b
theorem lt_pair (a b : List Str) : PySem.W.dataLt (pairD b) (pairD a) = !pathLe a b := by
  unfold pairD
  rw [PySem.W.dataLt_pair (alike_path b a) (by rw [PySem.W.alike, PySem.W.alikeAll, PySem.W.alikeAll, alike_path]; simp [PySem.W.alike, PySem.W.alikeAll]), eqv_path]
  by_cases e : b = a
  · subst e
    rw [decide_eq_true rfl, if_pos rfl, show PyData.eqv (.tuple [.int 0, pathD b]) (.tuple [.int 0, pathD b]) = true from by
      show (((0 : Int) == 0) && (PyData.eqv (pathD b) (pathD b) && true)) = true
      rw [eqv_path, decide_eq_true rfl]
      rfl, if_pos rfl, pathLe_refl]
    rfl
  · rw [decide_eq_false e, if_neg Bool.false_ne_true]
    exact lt_path a b
theorem le_pair : PySem.W.dataLe false pairD = pathLe := by
  rw [PySem.W.dataLe_eq]
  funext a b
  show (!PySem.W.dataLt (pairD b) (pairD a)) = pathLe a b
  rw [lt_pair, Bool.not_not]
theorem sort_paths {qs ps : List (List Str)} (nq : qs.Nodup) (np : ps.Nodup) (hm : ∀ q, q ∈ qs ↔ q ∈ ps) (hs : ps.Pairwise fun a b => pathLe a b = true) : qs.mergeSort pathLe = ps := by
  have h1 := List.pairwise_mergeSort (le := pathLe) (fun a b c => pathLe_trans a b c) (fun a b => by
    rcases pathLe_total a b with h | h <;> rw [h] <;> simp) qs
  refine List.Perm.eq_of_pairwise (le := fun a b => pathLe a b = true) (fun a b _ _ => pathLe_anti a b) h1 hs ?_
  exact (List.mergeSort_perm qs pathLe).trans ((List.perm_ext_iff_of_nodup nq np).mpr hm)
theorem PairAt.dp {K : PySem.W.Frag} {H : Hp} {v : V} {q : List Str} (h : PairAt H v q) : Dp K H v (pairD q) := by
  obtain ⟨t, pa, k, rfl, h1, h2, pb, h3, h4⟩ := h
  exact .tup (SqT.of h1) (.cons (.tup (SqT.of h2) (dp_strs q)) (.cons (.tup (SqT.of h3) (.cons (.int 0) (.cons (.tup (SqT.of h4) (dp_strs q)) .nil))) .nil))
theorem depth_pair (q : List Str) : (pairD q).depth ≤ 4 := by
  show max (PyData.depthAll (strsD q) + 1) (max (max 0 (max (PyData.depthAll (strsD q) + 1) 0) + 1) 0) + 1 ≤ 4
  rw [depth_strs]
  decide
section
variable {X : Cx} {pins : List (Addr × Obj)} {σ : L2.St} {H : Hp} {s : Shared}
theorem pairs_each (I : Inv X pins σ H s) {vs : List V} {qs : List (List Str)} (h : PairsAt H vs qs) : ∀ {us : List Value}, Vals vs us →
    PySem.W.EachIs (fun v q => ∃ t, v = Value.ref t ∧ PairAt H (.ref t) q) us qs ∧ PySem.W.EachIs (fun v q => ∃ as, Reads s.heap v (pairD q) as) us qs := by
  induction h with
  | nil =>
    intro us r
    cases r
    exact ⟨.nil, .nil⟩
  | cons a _ ih =>
    intro us r
    cases r with
    | @cons _ u _ _ r rr =>
      obtain ⟨e1, e2⟩ := ih rr
      refine ⟨.cons ?_ e1, .cons (Dp.reads I _ _ _ a.dp r) e2⟩
      obtain ⟨t, pa, k, rfl, h1⟩ := a
      cases r
      exact ⟨t, rfl, t, pa, k, rfl, h1⟩
theorem each_pairs {out : List Value} {qs : List (List Str)} (h : PySem.W.EachIs (fun v q => ∃ t, v = Value.ref t ∧ PairAt H (.ref t) q) out qs) : ∃ ys, Vals ys out ∧ PairsAt H ys qs := by
  induction h with
  | nil => exact ⟨[], .nil, .nil⟩
  | cons a _ ih =>
    obtain ⟨ys, h1, h2⟩ := ih
    obtain ⟨t, rfl, ht⟩ := a
    exact ⟨.ref t :: ys, .cons rfl h1, .cons ht h2⟩
def rSortPairs (K : PySem.W.Frag) : List V → Hp → VK → Prop := fun vs H Q => ∃ (a : Addr) (us : List V) (qs : List (List Str)), vs = [.ref a] ∧ SqL K H a us ∧ PairsAt H us qs ∧
  ∀ ys p, PairsAt H ys (qs.mergeSort pathLe) → H p = none → Q (.ref p) (upd H p (.lst ys))
theorem cr_sortPairs (hu : X.A.units + 64 < cLine) : CallR X (.builtin "sorted") (rSortPairs X.K) := by
  intro pins s σ H vs us Q I r h
  obtain ⟨a, xs, qs, rfl, hs, hP, q⟩ := h
  obtain ⟨its, rv, hl, hz⟩ := I.list hs
  obtain ⟨u, rfl, ru⟩ := vals1 r
  obtain rfl : u = Value.ref a := ru
  obtain ⟨e1, e2⟩ := pairs_each I hP rv
  refine PySem.W.sorted_data (enc := pairD) hl.isList e1 e2 (PySem.W.AllAlike.of alike_pair) (PySem.W.Sortable.tuples fun b => ⟨_, _, rfl⟩) (by rw [← hP.len]; exact hz) (fun b _ => ?_) fun out hlen eo => ?_
  · have := depth_pair b
    omega
  · rw [le_pair] at eo
    obtain ⟨ys, v1, p1⟩ := each_pairs eo
    obtain ⟨ep, he'⟩ := PyProof.Rows.sortedAll_at s.heap its out.toArray
    have hlen2 : ys.length ≤ sizeLine := by rw [v1.length, hlen, ← hP.len]; exact hz
    exact ⟨.ref _, upd H (s.heap.objs.size + 1) (.lst ys), I.laid (t' := s.toks) (fun _ _ => PyProof.Rows.sortedAll_old) (Nat.le_succ _) ⟨hlen2, out, ep, v1, he'⟩, rfl, q ys _ p1 (I.hok.fresh (Nat.le_succ _))⟩
end
/-! ### Plain.places -/
abbrev sPlaces : Stmt := inClass (topS 22) 9
theorem scPlaces : FnScope ["self"] ["self"] (defScope sPlaces) := ⟨rfl, rfl, rfl, by decide +kernel, rfl, by decide +kernel, by decide +kernel⟩
/-- rows of a store that can be told -/
structure Told (rs : List Rw) : Prop where
  ne : rs ≠ []
  n60 : rs.length ≤ 60
theorem good_sorted {rs : List Rw} (h : Good rs) : (rs.map (·.1)).Pairwise fun a b => pathLe a b = true := by
  rw [List.pairwise_map]
  rw [List.pairwise_iff_getElem]
  intro i j hi hj hij
  have hf := h j rs[j] (List.getElem?_eq_getElem hj)
  have hg : Good (rs.take j) := fun k r hk => by
    have hk2 : k < j := by
      have := (List.getElem?_eq_some_iff.mp hk).1
      rw [List.length_take] at this
      omega
    rw [List.getElem?_take_of_lt hk2] at hk
    rw [List.take_take, Nat.min_eq_left (Nat.le_of_lt hk2)]
    exact h k r hk
  refine (good_ahead hg hf rs[i] ?_).le
  rw [List.mem_iff_getElem?]
  exact ⟨i, by rw [List.getElem?_take_of_lt hij]; exact List.getElem?_eq_getElem hi⟩
theorem good_root {rs : List Rw} (h : Good rs) (ne : rs ≠ []) : [] ∈ rs.map (·.1) := by
  cases rs with
  | nil => exact absurd rfl ne
  | cons r rs =>
    have := (h 0 r rfl).1.mpr rfl
    exact List.mem_map.mpr ⟨r, List.mem_cons_self, this⟩
/-- a path is no longer than there are rows -/
theorem good_short {rs : List Rw} (h : Good rs) : ∀ q ∈ rs.map (·.1), q.length < rs.length := by
  intro q hq
  have nd : ((List.range (q.length + 1)).map fun i => q.take i).Nodup := by
    unfold List.Nodup
    rw [List.pairwise_map]
    refine List.Pairwise.imp_of_mem (fun {a b} ha hb hab z => hab ?_) (List.nodup_range (n := q.length + 1))
    have := congrArg List.length z
    rw [List.length_take, List.length_take] at this
    have h1 := List.mem_range.mp ha
    have h2 := List.mem_range.mp hb
    omega
  have := nodup_len nd fun x hx => by
    obtain ⟨i, _, rfl⟩ := List.mem_map.mp hx
    exact prefix_mem h (q.drop i).length (q.take i) (q.drop i) rfl (by rw [List.take_append_drop]; exact hq)
  rw [List.length_map, List.length_range, List.length_map] at this
  omega
def spPlaces (P : Program) (w : World) (CP CS : Addr) : Sp := fun vs H Q _ => ∃ (a : Addr) (rs : List Rw), vs = [.ref a] ∧ PlainAt P w CP CS H a rs ∧ Told rs ∧ ∀ L us H', Same H H' → H' L = some (.lst us) → PairsAt H' us (rs.map (·.1)) → Q (.ref L) H'
section
variable {P : Program} {w : World} {K : PySem.W.Frag} {mg : Str → Option Value} {base : Heap} {CS CP : Addr}
theorem ok_places {f : Addr} {fd : FuncData} (F : Fun K "places" "Plain.places" sPlaces f fd) (T : GloP K mg) (WP : ClP K mg CP) (db : Df P w K mg base "places_below" 62 ["spots", "path", "room"] (spBelow P w CS 61)) : FnOk P w K mg base CX0 63 f fd ["self"] (spPlaces P w CP CS) := by
  refine F.ok scPlaces (k := 62) (fun vs H Q E h => ?_) (fun cdv A outer s H vs Q E hr h => ?_)
  · obtain ⟨a, rs, rfl, _⟩ := h
    rfl
  · obtain ⟨a, rs, rfl, ⟨dx, d, cs, ea, st, hcs, good⟩, ⟨ne, n60⟩, q⟩ := h
    refine ⟨_, (pss_one (ps_ret (pe_callB (cr_sortPairs hr.units) (by rfl) T.sorted (by decide +kernel) (pa_cons (pe_df (E := E0) db hr (by rfl) (pa_cons (pe_fld (pv 0) rfl) (pa_cons (pe_tup pa_nil) (pa_cons (pe_tup (pa_cons pe_int (pa_cons (pe_tup pa_nil) pa_nil))) pa_nil)))) pa_nil)))), ?_⟩
    refine ⟨_, rfl, a, CP, dx, _, _, rfl, ea, WP.cl, WP.n1, rfl, (by show 0 ≤ sizeLine; decide), fun pa npa => ?_⟩
    have s1 := same_upd (o := .tup []) npa
    refine ⟨(by show 0 ≤ sizeLine; decide), fun pb npb => ?_⟩
    have s2 := same_upd (o := .tup []) npb
    refine ⟨(by show 2 ≤ sizeLine; decide), fun k nk => ?_⟩
    have s3 := same_upd (o := .tup [.int 0, .ref pb]) nk
    have epaths : pathsC cs = rs.map (·.1) := by unfold pathsC; rw [← hcs, List.map_map]; rfl
    have s03 : Same H (upd (upd (upd H pa (.tup [])) pb (.tup [])) k (.tup [.int 0, .ref pb])) := fun b o z => s3 b o (s2 b o (s1 b o z))
    refine ⟨d, pa, k, cs, [], rfl, st.same s03, (by rw [hcs]; exact good), ?_, s3 _ _ (s2 _ _ upd_same), ⟨pb, upd_same, s3 _ _ upd_same⟩, (by rw [epaths]; exact good_root good ne), fun x hx => ?_, (by decide), fun L us H' qs nL sx eL hP nd mem => ?_⟩
    · have := congrArg List.length hcs
      rw [List.length_map] at this
      omega
    · rw [epaths] at hx
      have := good_short good x hx
      show x.length < 0 + 61
      omega
    refine ⟨L, us, qs, rfl, SqL.of eL, hP, fun ys p hys np => ?_⟩
    rw [sort_paths nd (good_nodup good) (fun x => by rw [mem, epaths]; exact ⟨fun z => z.1, fun z => ⟨z, List.nil_prefix⟩⟩) (good_sorted good)] at hys
    have s4 := same_upd (o := .lst ys) np
    exact q p ys _ (fun b o z => s4 b o (sx b o (s03 b o z))) upd_same (hys.kt (kt_same s4))
end
end Law

set_option Elab.async false
set_option linter.all false
set_option maxRecDepth 100000
set_option maxHeartbeats 1000000
/-! ### sorting tuples of which the first is empty -/
namespace PySem.W
open PySem PySem.Calls PyProof.Rows PySem.SeqAt
section
variable {prog : Program} {w : World} {A : Around} {E : Value → Shared → Prop} {s : Shared}
theorem call_tuple_ltX {Q : Value → Shared → Prop} {l b : Addr} {items items2 : Array Value} {e r : Nat → Bool} (hl : s.heap.IsTuple l items) (hb : s.heap.IsTuple b items2)
    (he : ∀ j (h1 : j < items.size) (h2 : j < items2.size), EqAt A.in1 s items[j] items2[j] (e j)) (hr : ∀ j (h1 : j < items.size) (h2 : j < items2.size), e j = false → RcLt A.in1 s items[j] items2[j] (r j))
    (h : Q (.bool (firstLt e r (decide (items.size < items2.size)) (List.range (min items.size items2.size)))) s) : wpAny (model prog w) A (call (.builtin "tuple.__lt__") [.ref l, .ref b]) Q E s := by
  obtain ⟨⟨cls, dd, data, sl⟩, ho, hc, n, hd⟩ := id hl
  obtain ⟨⟨cls2, dd2, data2, sl2⟩, ho2, hc2, n2, hd2⟩ := id hb
  simp only at hc hd hc2 hd2
  subst hc hd hc2 hd2
  exact call_meets F.slot_tuple_lt ⟨_, ho, rfl⟩ F.entry_tuple_lt (F.args_tuple_lt_2 _ _) (tuple_ltAt l b items items2 n n2 dd dd2 sl sl2 e r) ⟨ho, ho2, he, hr, h⟩
theorem oneLt_tuples {xs ys : List PyData} {a b : Value} {as bs : List Addr} {Q : Bool → Shared → Prop} (ra : Reads s.heap a (.tuple xs) as) (rb : Reads s.heap b (.tuple ys) bs) (h : alike (.tuple xs) (.tuple ys) = true)
    (hu : A.units + min (PyData.tuple xs).depth (PyData.tuple ys).depth < cLine) (hq : Q (dataLt (.tuple xs) (.tuple ys)) s) : wpAny (model prog w) A (oneLt' true a b) Q E s := by
  have hal : alikeAll xs ys = true := by simpa [alike] using h
  cases ra with
  | @tuple l o vs n _ as₁ h1 h2 h3 h4 =>
    cases rb with
    | @tuple l' o' vs' n' _ bs₁ k1 k2 k3 k4 =>
      have n1 : vs.size = xs.length := by simpa using ReadsAll.length _ _ _ h4
      have n2 : vs'.size = ys.length := by simpa using ReadsAll.length _ _ _ k4
      rw [dataLt_tuple, ← firstLt_toks xs ys hal, ← n1, ← n2] at hq
      rw [oneLt'_eq]
      simp only [if_true]
      refine wpAny_bind (wpAny_cRoomFor (room_here hu) ?_)
      refine wpAny_bind (wpAny_callSpecialIfBound?_slot (T := "tuple") ⟨_, h1, h2⟩ F.slot_tuple_lt (call_tuple_ltX (e := pairEq xs ys) (r := fun j => dataLt (xs.getD j .none) (ys.getD j .none)) ⟨_, h1, h2, _, h3⟩ ⟨_, k1, k2, _, k3⟩ (fun j j1 j2 => ?_) (fun j j1 j2 hj => ?_) ?_))
      · have := eqAt_alikeAll xs ys A.in1 s vs.toList vs'.toList _ _ h4 k4 hal (room_in hu) j (by simpa using j1) (by simpa using j2)
        simpa using this
      · have := rcLt_alikeAll xs ys A.in1 s vs.toList vs'.toList _ _ h4 k4 hal (room_in hu) j (by simpa using j1) (by simpa using j2) hj
        simpa using this
      · exact wpAny_truthy_bool hq
end
section
variable {M : Model} {A : Around} {E : Value → Shared → Prop} {s : Shared}
theorem first_tupleX {v : Value} {xs : List PyData} {as : List Addr} {Q : Option Value → Shared → Prop} (r : Reads s.heap v (.tuple xs) as) (h : ∀ f, (xs = [] → f = none) → Q f s) : wpAny M A (firstOfTuple' v) Q E s := by
  cases r with
  | @tuple l o vs n _ as₁ h1 h2 h3 h4 =>
    rw [kas_first_eq]
    refine wpAny_bind (Looks.here (show Looks M s.heap (typeOf (.ref l)) o.cls from (Looks.ld h1).andThen .now) ?_)
    rw [h2, if_neg (by first | decide | simp)]
    refine wpAny_bind (listItems_at h1 h3 (wpAny_pure (h _ fun e => ?_)))
    have n1 : vs.size = xs.length := by simpa using ReadsAll.length _ _ _ h4
    subst e
    have n0 : vs.size = 0 := n1
    exact Array.getElem?_eq_none (by rw [n0]; exact Nat.le_refl _)
theorem firsts_tuplesX : ∀ (vs : List Value) (ds : List PyData) {Q : List (Option Value) → Shared → Prop}, EachIs (fun v d => ∃ as, Reads s.heap v d as) vs ds → (∀ d ∈ ds, ∃ xs, d = .tuple xs) → (∀ fs, fs.length = vs.length → (ds.head? = some (.tuple []) → fs.head? = some none) → Q fs s) → wpAny M A (vs.mapM firstOfTuple') Q E s
  | _, _, _, .nil, _, h => by rw [List.mapM_nil]; exact wpAny_pure (h [] rfl (fun x => nomatch x))
  | _, _, Q, .cons (a := v) (as := vs) (b := d) (bs := ds) ⟨as, r⟩ t, ht, h => by
    obtain ⟨xs, rfl⟩ := ht d (List.mem_cons_self ..)
    rw [List.mapM_cons]
    refine wpAny_bind (first_tupleX r fun f hf => ?_)
    refine wpAny_bind (firsts_tuplesX _ _ t (fun d hd => ht d (List.mem_cons_of_mem _ hd)) fun fs hl _ => wpAny_pure (h _ (by rw [List.length_cons, List.length_cons, hl]) fun e => ?_))
    have e' : xs = [] := by
      have := Option.some.inj e
      injection this
    rw [hf e']
    rfl
end
section
variable {prog : Program} {w : World} {A : Around} {s : Shared}
theorem SortsAt.rooted {vs : List Value} {ds : List PyData} (e : EachIs (fun v d => ∃ as, Reads s.heap v d as) vs ds) (hal : AllAlike ds) (ht : ∀ d ∈ ds, ∃ xs, d = .tuple xs) (h0 : ds.head? = some (.tuple [])) (hu : ∀ d, d ∈ ds → A.units + d.depth < cLine) : SortsAt prog w A s (dataKind s.heap ds) vs := by
  have room : ∀ {d d' : PyData}, d ∈ ds → A.units + min d.depth d'.depth < cLine := fun {d d'} hd => Nat.lt_of_le_of_lt (Nat.add_le_add_left (Nat.min_le_left _ _) _) (hu d hd)
  refine ⟨fun v hv => ?_, ?_⟩
  · obtain ⟨d, hd, as, r⟩ := e.left v hv
    exact ⟨_, dataKind_some hal hd r⟩
  · refine ⟨oneType', ?_, fun h2 E Q hq => ?_⟩
    · intro E x y a b Q ha hb hq
      obtain ⟨d, as, hd, ra, rfl⟩ := dataKind_inv ha
      obtain ⟨d', as', hd', rb, rfl⟩ := dataKind_inv hb
      have hdd := hal d hd d' hd'
      have hroom := room (d' := d') hd
      obtain ⟨x1, rfl⟩ := ht d hd
      obtain ⟨x2, rfl⟩ := ht d' hd'
      rw [keyLt'_oneType]
      exact oneLt_tuples ra rb hdd hroom hq
    · rw [keyKind'_eq, List.mapM_toArray, map_eq_pure_bind]
      refine wpAny_bind (wpAny_bind (firsts_tuplesX vs ds e ht fun fs hl hf => wpAny_pure ?_))
      obtain ⟨f, fr, rfl⟩ : ∃ f fr, fs = f :: fr := by
        cases fs with
        | nil =>
          have : vs.length = 0 := hl.symm
          omega
        | cons f fr => exact ⟨f, fr, rfl⟩
      have ef : f = none := Option.some.inj (hf h0)
      subst ef
      rw [if_neg (by simp), if_neg (by simp)]
      rw [oneTypeOnly'_eq, List.mapM_toArray, map_eq_pure_bind]
      refine wpAny_bind (wpAny_bind (wpAny_bind (kas_mapM (r := Value.type "tuple") _ (fun v hv Q' hq => ?_) (wpAny_pure ?_))))
      · obtain ⟨d, hd, as, r⟩ := e.left v hv
        obtain ⟨xs, rfl⟩ := ht d hd
        exact (looks_reads r).here hq
      · obtain ⟨v₁, rest, rfl⟩ : ∃ v₁ rest, vs = v₁ :: rest := by
          cases vs with
          | nil => exact absurd h2 (by simp)
          | cons v vs => exact ⟨v, vs, rfl⟩
        have hall : ((List.map (fun _ => Value.type "tuple") (v₁ :: rest)).toArray.all fun x => x == Value.type "tuple") = true := by
          simp only [List.all_toArray, List.all_map, List.all_eq_true]
          intro _ _
          rfl
        have h0 : (List.map (fun _ => Value.type "tuple") (v₁ :: rest)).toArray[0]? = some (Value.type "tuple") := by simp
        rw [h0]
        simp only [hall, if_true]
        exact wpAny_pure (wpAny_pure hq)
end
end PySem.W

set_option Elab.async false
set_option linter.all false
set_option maxRecDepth 100000
set_option maxHeartbeats 1000000
namespace Law
open PySem PySem.Spec PyProof.Rows L2 Cor
/-! ### path_text, Plain.__str__ -/
abbrev sPathText : Stmt := topS 15
theorem scPathText : FnScope ["path"] ["path"] (defScope sPathText) := ⟨rfl, rfl, rfl, by decide +kernel, rfl, by decide +kernel, by decide +kernel⟩
abbrev sPStr : Stmt := inClass (topS 22) 17
theorem scPStr : FnScope ["self", "rows", "path", "room", "spot"] ["self"] (defScope sPStr) := ⟨rfl, rfl, rfl, by decide +kernel, rfl, by decide +kernel, by decide +kernel⟩
def pathText (p : List Str) : Str := "/" ++ Txt.join "/" p
def rowText (r : Rw) : Str := Str.empty ++ pathText r.1 ++ " " ++ Str.ofString (toString r.2.1) ++ " at " ++ r.2.2
def storeText (rs : List Rw) : Str := Txt.join "\n" (rs.map rowText)
/-- a path of short names -/
def Short (p : List Str) : Prop := p.length ≤ 10000 ∧ ∀ n ∈ p, n.length ≤ 6
theorem sum_len : ∀ {p : List Str} {B : Nat}, (∀ n ∈ p, n.length ≤ B) → (p.map (·.length)).sum ≤ B * p.length
  | [], _, _ => Nat.zero_le _
  | x :: p, B, h => by
    have ih := sum_len (p := p) (B := B) fun n hn => h n (List.mem_cons_of_mem _ hn)
    have := h x List.mem_cons_self
    rw [List.map_cons, List.sum_cons, List.length_cons, Nat.mul_succ]
    omega
theorem join_le {y : Str} : ∀ (ps : List Str), (Txt.join y ps).length ≤ (ps.map (·.length)).sum + ps.length * y.length := by
  intro ps
  rw [TL.join_eq]
  induction ps with
  | nil => exact Nat.zero_le _
  | cons x ps ih =>
    cases ps with
    | nil =>
      show x.length ≤ _
      simp
    | cons z ps =>
      show (x ++ y ++ Str.join y (z :: ps)).length ≤ _
      rw [Str.length_append, Str.length_append, List.map_cons, List.sum_cons, List.length_cons, Nat.succ_mul]
      omega
def spPathText : Sp := fun vs H Q _ => ∃ (a : Addr) (p : List Str), vs = [.ref a] ∧ H a = some (.tup (p.map V.str)) ∧ Short p ∧ Q (.str (pathText p)) H
section
variable {P : Program} {w : World} {K : PySem.W.Frag} {mg : Str → Option Value} {base : Heap} {CS CP : Addr}
theorem ok_pathText {f : Addr} {fd : FuncData} (F : Fun K "path_text" "path_text" sPathText f fd) : FnOk P w K mg base CX0 1 f fd ["path"] spPathText := by
  refine F.ok scPathText (k := 0) (fun vs H Q E h => ?_) (fun cdv A outer s H vs Q E hr h => ?_)
  · obtain ⟨a, p, rfl, _⟩ := h
    rfl
  · obtain ⟨a, p, rfl, ea, ⟨h1, h2⟩, q⟩ := h
    refine ⟨_, (pss_one (ps_ret (pe_op op_add_str pe_str (pe_join pe_str (pv 0))))), ?_⟩
    have hs := sum_len h2
    have l1 : Str.length (Str.ofString "/") = 1 := by decide +kernel
    have hj := join_le (y := "/") p
    rw [l1] at hj
    refine ⟨⟨_, rfl⟩, _, rfl, "/", a, p, rfl, rfl, .inr (SqT.of ea), ?_, ?_⟩
    · rw [l1]
      omega
    exact ⟨_, _, rfl, rfl, (by rw [l1]; exact Nat.le_trans (show 1 + (Txt.join "/" p).length ≤ 100000 by omega) (by decide)), q⟩
end
theorem num_len1 {n : Int} (h : n.natAbs.log2 < 1920) : Str.length (Str.ofString (toString n)) ≤ 1921 := by
  rw [PySem.ofString_length]
  exact PySem.int_text_length_le (by decide) h
theorem pathText_len {p : List Str} (h : Short p) : (pathText p).length ≤ 70001 := by
  have hs := sum_len h.2
  have l1 : Str.length (Str.ofString "/") = 1 := by decide +kernel
  have hj := join_le (y := "/") p
  rw [l1] at hj
  unfold pathText
  rw [Str.length_append, l1]
  have := h.1
  omega
theorem rowText_len {r : Rw} (h1 : Short r.1) (h2 : r.2.2.length ≤ 6) (h3 : r.2.1.natAbs.log2 < 1920) : (rowText r).length ≤ 72000 := by
  unfold rowText
  have a1 := pathText_len h1
  have a2 := num_len1 h3
  have l1 : Str.length (Str.ofString " ") = 1 := by decide +kernel
  have l2 : Str.length (Str.ofString " at ") = 4 := by decide +kernel
  have l3 : Str.empty.length = 0 := by decide +kernel
  rw [Str.length_append, Str.length_append, Str.length_append, Str.length_append, Str.length_append, l1, l2, l3]
  omega
/-- what can be shown -/
structure Shown (rs : List Rw) : Prop extends Told rs where
  short : ∀ r ∈ rs, Short r.1 ∧ r.2.2.length ≤ 6 ∧ r.2.1.natAbs.log2 < 1920
/-- pairs of a path and its spot -/
def PsAt (H : Hp) (CS : Addr) (v : V) (r : Rw) : Prop := ∃ t pa sa dx dd, v = .ref t ∧ H t = some (.tup [.ref pa, .ref sa]) ∧ H pa = some (.tup (r.1.map V.str)) ∧ H sa = some (.ins CS dx (spotF (.int r.2.1) (.str r.2.2) dd))
def PssAt (H : Hp) (CS : Addr) (vs : List V) (rs : List Rw) : Prop := vs.length = rs.length ∧ ∀ (i : Nat) (v : V) (r : Rw), vs[i]? = some v → rs[i]? = some r → PsAt H CS v r
theorem PssAt.snoc {H : Hp} {CS : Addr} {vs : List V} {rs : List Rw} {v : V} {r : Rw} (h : PssAt H CS vs rs) (a : PsAt H CS v r) : PssAt H CS (vs ++ [v]) (rs ++ [r]) := by
  obtain ⟨hl, h⟩ := h
  refine ⟨by rw [List.length_append, List.length_append, hl]; rfl, fun i u q hu hq => ?_⟩
  rcases Nat.lt_trichotomy i vs.length with hi | hi | hi
  · rw [List.getElem?_append_left hi] at hu
    rw [List.getElem?_append_left (by omega)] at hq
    exact h i u q hu hq
  · subst hi
    rw [List.getElem?_append_right (Nat.le_refl _), Nat.sub_self] at hu
    rw [List.getElem?_append_right (by omega), hl, Nat.sub_self] at hq
    cases hu
    cases hq
    exact a
  · rw [List.getElem?_append_right (by omega)] at hu
    have : ([v] : List V)[i - vs.length]? = none := by rw [List.getElem?_eq_none_iff]; simp; omega
    rw [this] at hu
    cases hu
theorem PsAt.kp {H H' : Hp} (k : Kp H H') {CS : Addr} {v : V} {r : Rw} (h : PsAt H CS v r) : PsAt H' CS v r := let ⟨t, pa, sa, dx, dd, e, h1, h2, h3⟩ := h; ⟨t, pa, sa, dx, dd, e, k _ _ (fun _ z => by cases z) h1, k _ _ (fun _ z => by cases z) h2, k _ _ (fun _ z => by cases z) h3⟩
theorem PssAt.kp {H H' : Hp} (k : Kp H H') {CS : Addr} {vs : List V} {rs : List Rw} (h : PssAt H CS vs rs) : PssAt H' CS vs rs := ⟨h.1, fun i v r a b => (h.2 i v r a b).kp k⟩
def spStrP (P : Program) (w : World) (CP CS : Addr) : Sp := fun vs H Q _ => ∃ (a : Addr) (rs : List Rw), vs = [.ref a] ∧ PlainAt P w CP CS H a rs ∧ Shown rs ∧ ∀ H', Same H H' → Q (.str (storeText rs)) H'
section
variable {P : Program} {w : World} {K : PySem.W.Frag} {mg : Str → Option Value} {base : Heap} {CS CP : Addr}
theorem ok_pStr {f : Addr} {fd : FuncData} (F : Fun K "__str__" "Plain.__str__" sPStr f fd) (T : GloP K mg) (WP : ClP K mg CP) (WS : ClS K mg CS) (dp : ∃ f fd, Meth K CP "places" f ∧ FnOk P w K mg base CX0 63 f fd ["self"] (spPlaces P w CP CS) ∧ Binds K fd ["self"] []) (dt : Df P w K mg base "path_text" 1 ["path"] spPathText) : FnOk P w K mg base CX0 64 f fd ["self"] (spStrP P w CP CS) := by
  refine F.ok scPStr (k := 63) (fun vs H Q E h => ?_) (fun cdv A outer s H vs Q E hr h => ?_)
  · obtain ⟨a, rs, rfl, _⟩ := h
    rfl
  · obtain ⟨a, rs, rfl, hpl, sh, q⟩ := h
    obtain ⟨fp, fdp, hmp, Fp, bp⟩ := dp
    have hu10 : (cxOf CX0 P w K mg base ["self", "rows", "path", "room", "spot"] "Plain.__str__" (defScope sPStr) f cdv A outer s H E).nox.A.units + 10 < cLine := by
      have := hr.units
      show (A.deeper _).units + 10 < cLine
      omega
    refine ⟨_, (pss_cons (ps_setLc (i := 1) (own := [("path", 2), ("room", 3)]) (g := gTup K 2 (gCons (gName 2) (gCons (gName 3) gNil))) (te := tTup (tCons (tVar 2) (tCons (tGetN P w (tFld K (tVar 0) "spots") (tVar 3)) tNil))) (by rfl) scPStr.nd rfl rfl (sw_true rfl rfl rfl (by decide +kernel)) (pi_list (pe_meth0 (E := E0) (pv 0) WP.cl hmp Fp hr bp .nil pass0)) (blkOk_by (own := [("path", 2), ("room", 3)]) (N := ["self", "rows", "path", "room", "spot"]) (sc := defScope sPStr) (by decide +kernel)) (fun _ _ _ _ _ => (pg_tup (n := 2) rfl (pgs_cons (pg_name (i := 2) scPStr.nd rfl (Or.inl rfl)) (pgs_cons (pg_name (i := 3) scPStr.nd rfl (Or.inl rfl)) pgs_nil)))) (fun _ _ _ _ _ => pts_nil) (fun _ _ _ _ _ => (pe_tup (pa_cons (pv 2) (pa_cons (pe_getN hu10 (pe_fld (pv 0) rfl) (pv 3) (fun _ _ => rfl)) pa_nil)))))
      (pss_one (ps_ret (pe_join pe_str (pe_lc (own := [("path", 2), ("spot", 4)]) (g := gTup K 2 (gCons (gName 2) (gCons (gName 4) gNil))) (te := fun σ H Q => tJs [tFmt (tCall spPathText [] E0 (tCons (tVar 2) tNil)), tC (V.str " "), tFmt (tFld K (tVar 4) "much"), tC (V.str " at "), tFmt (tFld K (tVar 4) "house")] Str.empty σ H fun out H1 => Q (.str out) H1) (by rfl) scPStr.nd (pi_list (pv 1)) (blkOk_by (own := [("path", 2), ("spot", 4)]) (N := ["self", "rows", "path", "room", "spot"]) (sc := defScope sPStr) (by decide +kernel)) (fun _ _ _ _ _ => (pg_tup (n := 2) rfl (pgs_cons (pg_name (i := 2) scPStr.nd rfl (Or.inl rfl)) (pgs_cons (pg_name (i := 4) scPStr.nd rfl (Or.inl rfl)) pgs_nil)))) (fun _ _ _ _ _ => pts_nil) (fun _ _ _ _ _ => (pe_joined (PJ.cons (pe_fmt (pe_df (E := E0) dt (hr.mono (by omega)) (by rfl) (pa_cons (pv 2) pa_nil))) (PJ.cons pe_str (PJ.cons (pe_fmt (pe_fld (pv 4) rfl)) (PJ.cons pe_str (PJ.cons (pe_fmt (pe_fld (pv 4) rfl)) PJ.nil)))))))))))), ?_⟩
    have hpl' := hpl
    obtain ⟨dx, d, cs, ea, st, hcs, good⟩ := hpl'
    have at0 : H d = some (DN P w d (cs.map entC)) := st.at_.elim id fun z => absurd (by rw [← hcs, z.2]; rfl) sh.ne
    have ndp : ((cs.map entC).map (·.1)).Nodup := by
      have h1 := good_nodup good
      rw [← hcs, List.map_map] at h1
      rw [List.map_map]
      exact h1
    have n60 := sh.n60
    refine ⟨_, rfl, a, dx, _, rfl, ea, rfl, a, rs, rfl, hpl, sh.toTold, fun L us H1 s1 eL hP => ?_⟩
    have ulen := hP.len
    rw [List.length_map] at ulen
    refine ⟨L, rfl, ⟨_, SqL.of eL⟩, fun D nD => lc_list (xs := us) (fun i H' => Same H1 H' ∧ ∃ acc, H' D = some (.lst acc) ∧ PssAt H' CS acc (rs.take i)) ?_ ?_ ?_ ?_⟩
    · exact ⟨same_upd nD, [], upd_same, rfl, fun i v r hv => by cases hv⟩
    · rintro i H' _ ⟨sx, _⟩
      exact SqL.of (sx _ _ eL)
    · rintro i v H2 hv ⟨s12, acc, eD, hA⟩
      obtain ⟨qq, hq, t, pa, k, rfl, et, epa, hroom⟩ := hP.get hv
      rw [List.getElem?_map] at hq
      obtain ⟨r, hr', rfl⟩ := Option.map_eq_some_iff.mp hq
      obtain ⟨c, hc, ec⟩ : ∃ c ∈ cs, c.1 = r := by
        have := List.mem_of_getElem? hr'
        rw [← hcs] at this
        obtain ⟨c, hc, e⟩ := List.mem_map.mp this
        exact ⟨c, hc, e⟩
      have s02 : Same H H2 := fun b o z => s12 b o (s1 b o z)
      have st2 := st.same s02
      obtain ⟨_, ⟨dxs, esp⟩, _⟩ := st2.cells c hc
      refine ⟨t, _, rfl, SqT.of (s12 _ _ et), rfl, _, _, rfl, _, _, rfl, rfl, rfl, _, rfl, _, rfl, a, CP, dx, _, _, rfl, s02 _ _ ea, WP.cl, WP.n1, rfl, _, rfl, d, k, cs.map entC, r.1, entC c, rfl, rfl, s02 _ _ at0, st2.keys, hroom.kt (kt_same s12), ?_, (by show 2 ≤ sizeLine; decide), fun t2 nt2 => ?_⟩
      · rw [← ec]
        exact getN_of (e := entC c) ndp (List.mem_map.mpr ⟨c, hc, rfl⟩)
      have s23 := same_upd (o := .tup [.ref pa, .ref c.2.2.1]) nt2
      have et2 : (upd H2 t2 (.tup [.ref pa, .ref c.2.2.1])) t2 = some (.tup [.ref pa, .ref c.2.2.1]) := upd_same
      refine ⟨acc, s23 _ _ eD, ?_, fun b o z => ?_, acc ++ [.ref t2], upd_same, ?_⟩
      · rw [hA.1, List.length_take]
        exact Nat.lt_of_le_of_lt (show min i rs.length ≤ 60 by omega) (by decide)
      · rw [upd_ne (ne_of_none z nD)]
        exact s23 b o (s12 b o z)
      · have kx : Kp H2 (upd (upd H2 t2 (.tup [.ref pa, .ref c.2.2.1])) D (.lst (acc ++ [.ref t2]))) := fun b o n z => by
          rw [upd_ne (fun e => by rw [e, eD] at z; exact n _ (Option.some.inj z).symm)]
          exact s23 b o z
        have nt2D : t2 ≠ D := fun e => by rw [e, eD] at nt2; cases nt2
        rw [List.take_succ, hr']
        refine (hA.kp kx).snoc ⟨t2, pa, c.2.2.1, dxs, c.2.2.2, rfl, (upd_ne nt2D).trans et2, kx _ _ (fun _ z => by cases z) (s12 _ _ epa), ?_⟩
        rw [← ec]
        exact kx _ _ (fun _ z => by cases z) esp
    · rintro H2 ⟨s12, acc, eD, hA⟩
      rw [ulen, List.take_length] at hA
      have s02 : Same H H2 := fun b o z => s12 b o (s1 b o z)
      have rlen : ∀ r ∈ rs, (rowText r).length ≤ 72000 := fun r hr' => rowText_len (sh.short r hr').1 (sh.short r hr').2.1 (sh.short r hr').2.2
      refine ⟨⟨_, rfl⟩, _, rfl, D, rfl, ⟨_, SqL.of eD⟩, fun D2 nD2 => lc_list (xs := acc) (te := fun σ H Q => tJs [tFmt (tCall spPathText [] E0 (tCons (tVar 2) tNil)), tC (V.str " "), tFmt (tFld K (tVar 4) "much"), tC (V.str " at "), tFmt (tFld K (tVar 4) "house")] Str.empty σ H fun out H1 => Q (.str out) H1) (fun i H' => Same H2 H' ∧ H' D2 = some (.lst (((rs.take i).map rowText).map V.str))) ?_ ?_ ?_ ?_⟩
      · exact ⟨same_upd nD2, upd_same⟩
      · rintro i H' _ ⟨sx, _⟩
        exact SqL.of (sx _ _ eD)
      · rintro i v H3 hv ⟨s23, eD2⟩
        have hi : i < acc.length := (List.getElem?_eq_some_iff.mp hv).1
        have hrl : i < rs.length := by rw [← hA.1]; exact hi
        have hr' : rs[i]? = some rs[i] := List.getElem?_eq_getElem hrl
        obtain ⟨t, pa, sa, dxs, dd, rfl, et, epa, esa⟩ := (hA.2 i v rs[i] hv hr').kp (Same.kp s23)
        obtain ⟨sh1, sh2, sh3⟩ := sh.short rs[i] (List.getElem_mem hrl)
        have all : (Str.empty ++ pathText rs[i].1 ++ " " ++ Str.ofString (toString rs[i].2.1) ++ " at " ++ rs[i].2.2 : Str).length ≤ sizeLine := Nat.le_trans (rlen _ (List.getElem_mem hrl)) (by decide)
        have pre : ∀ {a b : Str}, (a ++ b).length ≤ sizeLine → a.length ≤ sizeLine := fun {a b} z => by rw [Str.length_append] at z; omega
        have a4 := pre all
        have a3 := pre a4
        have a2 := pre a3
        have a1 := pre a2
        have p1 : (pathText rs[i].1).length ≤ sizeLine := Nat.le_trans (pathText_len sh1) (by decide)
        have h1 : rs[i].2.2.length ≤ sizeLine := Nat.le_trans sh2 (by decide)
        refine ⟨t, _, rfl, SqT.of et, rfl, _, _, rfl, _, _, rfl, rfl, rfl, _, rfl, pa, rs[i].1, rfl, epa, sh1, .inl ⟨_, rfl, p1, _, rfl, a1, _, rfl, a2, _, rfl, sa, CS, dxs, _, _, rfl, esa, WS.cl, WS.n1, rfl, .inr ⟨_, rfl, sh3, _, rfl, a3, _, rfl, a4, _, rfl, sa, CS, dxs, _, _, rfl, esa, WS.cl, WS.n2, rfl, .inl ⟨_, rfl, h1, _, rfl, all, _, eD2, ?_, fun b o z => ?_, ?_⟩⟩⟩⟩
        · rw [List.length_map, List.length_map, List.length_take]
          exact Nat.lt_of_le_of_lt (show min i rs.length ≤ 60 by omega) (by decide)
        · rw [upd_ne (ne_of_none z nD2)]
          exact s23 b o z
        · rw [upd_same, List.take_succ, hr', List.map_append, List.map_append]
          rfl
      · rintro H3 ⟨s23, eD2⟩
        rw [hA.1, List.take_length] at eD2
        refine ⟨"\n", D2, rs.map rowText, rfl, rfl, .inl (SqL.of eD2), ?_, q H3 fun b o z => s23 b o (s02 b o z)⟩
        have hs := sum_len (p := rs.map rowText) (B := 72000) fun n hn => by
          obtain ⟨r, hr', rfl⟩ := List.mem_map.mp hn
          exact rlen r hr'
        rw [show Str.length (Str.ofString "\n") = 1 from by decide +kernel]
        rw [List.length_map] at hs ⊢
        have : 72000 * rs.length ≤ 72000 * 60 := Nat.mul_le_mul_left _ n60
        omega
end
end Law

set_option Elab.async false
set_option linter.all false
set_option maxRecDepth 100000
set_option maxHeartbeats 1000000
namespace Law
open PySem PySem.Spec PyProof.Rows L2 Cor
/-! ### the law's own reading -/
def signV (c : Nat) : V := .str ⟨#[c]⟩
/-- [c for c in z if p(c)] -/
theorem lc_filt {z : Str} {p : Nat → Bool} {g : TG} {tt : TT} {te : TE} {vs : List Nat} {σ : L2.St} {H1 : Hp} {D : Addr} {Qd : Hp → Prop} (nD : H1 D = none) (hz : z.length ≤ sizeLine)
    (hs : ∀ (c : Nat) (H : Hp) (R R' : Hp → Prop), (p c = true → ∀ acc, H D = some (.lst acc) → acc.length < sizeLine → R (upd H D (.lst (acc ++ [signV c])))) → (p c = false → R H) → ∀ acc, H D = some (.lst acc) → acc.length < sizeLine → g (.str ⟨#[c]⟩) (wipe σ vs) H fun σ2 H2 => wipe σ2 vs = wipe σ vs ∧ tt σ2 H2 fun b H3 =>
      if b = true then te σ2 H3 fun y H4 => ∃ acc, H4 D = some (.lst acc) ∧ acc.length < sizeLine ∧ R (upd H4 D (.lst (acc ++ [y]))) else R H3)
    (hd : ∀ H, Same H1 H → H D = some (.lst ((z.cps.toList.filter p).map signV)) → Qd H) :
    ∃ W : Nat → Nat → Hp → Prop, (∃ m, W 0 m (upd H1 D (.lst []))) ∧ ∀ i m H, W i m H →
      ((Its z).stop i H ∧ Qd H) ∨ ((Its z).go i H ∧ ∃ Nx : Hp → Prop, (∀ H', Nx H' → ∃ m', m' < m ∧ W (i + 1) m' H') ∧ ∀ x H', (Its z).yld i H x H' → g x (wipe σ vs) H' fun σ2 H2 => wipe σ2 vs = wipe σ vs ∧ tt σ2 H2 fun b H3 =>
        if b = true then te σ2 H3 fun y H4 => ∃ acc, H4 D = some (.lst acc) ∧ acc.length < sizeLine ∧ Nx (upd H4 D (.lst (acc ++ [y]))) else Nx H3) := by
  refine lc_it (n := z.cps.size) walk_str (fun i H => Same H1 H ∧ H D = some (.lst (((z.cps.toList.take i).filter p).map signV))) ⟨same_upd nD, upd_same⟩ (fun _ _ _ _ => True.intro) ?_ ?_
  · rintro i x H _ hi ⟨s1, e1⟩ ⟨rfl, c, hc, rfl⟩
    refine hs c _ _ (fun _ => True) (fun hp acc e hl => ⟨fun b o z' => ?_, ?_⟩) (fun hp => ⟨s1, ?_⟩) _ e1 ?_
    · rw [upd_ne (ne_of_none z' nD)]
      exact s1 b o z'
    · rw [e1] at e
      cases e
      rw [upd_same, take_succ_cps hc, List.filter_append, List.map_append]
      simp [List.filter_cons, hp]
    · rw [e1, take_succ_cps hc, List.filter_append]
      simp [List.filter_cons, hp]
    · rw [List.length_map]
      refine Nat.lt_of_le_of_lt (List.length_filter_le _ _) ?_
      rw [List.length_take, len_cps]
      have : z.cps.size = z.length := rfl
      omega
  · rintro H ⟨s1, e1⟩
    refine hd H s1 ?_
    rw [e1, show z.cps.size = z.cps.toList.length from (Array.length_toList).symm, List.take_length]
theorem signs_dp {K : PySem.W.Frag} {H : Hp} : ∀ cs : List Nat, DpAll K H (cs.map signV) (strsD (cs.map fun c => (⟨#[c]⟩ : Str)))
  | [] => .nil
  | c :: cs => .cons (.str _) (signs_dp cs)
theorem filt_nil {z : Str} {q : Nat → Bool} : ((z.cps.toList.filter fun c => !q c) = []) ↔ z.cps.toList.all q = true := by
  rw [List.filter_eq_nil_iff, List.all_eq_true]
  constructor
  · intro h c hc
    have := h c hc
    cases hq : q c with
    | true => rfl
    | false => rw [hq] at this; exact absurd rfl this
  · intro h c hc
    rw [h c hc]
    decide
theorem eqv_signs (cs : List Nat) : PyData.eqv (.list (strsD (cs.map fun c => (⟨#[c]⟩ : Str)))) (.list (strsD [])) = decide (cs = []) := by
  rw [show PyData.eqv (.list (strsD (cs.map fun c => (⟨#[c]⟩ : Str)))) (.list (strsD [])) = decide ((cs.map fun c => (⟨#[c]⟩ : Str)) = []) from eqv_strs _ []]
  cases cs <;> rfl
def spLName : Sp := fun vs H Q _ => ∃ x : Str, vs = [.str x] ∧ x.length ≤ 10000 ∧ A7 x ∧ ∀ H', Same H H' → Q (.bl (nameB x)) H'
section
variable {P : Program} {w : World} {K : PySem.W.Frag} {mg : Str → Option Value} {base : Heap}
end
end Law

set_option Elab.async false
set_option linter.all false
set_option maxRecDepth 100000
set_option maxHeartbeats 1000000
namespace Law
open PySem PySem.Spec PyProof.Rows L2 Cor
def minusB (x : Str) : Bool := decide (x.cps.toList.head? = some 45)
def figOfW (x : Str) : Str := if minusB x = true then tailS x else x
def lnumB (x : Str) : Bool := (decide (1 ≤ (figOfW x).length) && decide ((figOfW x).length ≤ 20)) && ((figOfW x).cps.toList.all (isIn digS) && (decide (x = "0") || !decide ((figOfW x).cps.toList.head? = some 48)))
theorem dig_pos {c : Nat} {r : List Nat} (h : ∀ d ∈ c :: r, 48 ≤ d ∧ d ≤ 57) (hc : c ≠ 48) : 0 < NumText.digitsVal (c :: r) := by
  have key : ∀ (l : List Nat) (a : Nat), 0 < a → 0 < l.foldl (fun acc c => acc * 10 + (c - 48)) a := by
    intro l
    induction l with
    | nil => intro a ha; exact ha
    | cons x l ih => intro a ha; exact ih _ (Nat.add_pos_left (Nat.mul_pos ha (by decide)) _)
  show 0 < (c :: r).foldl (fun acc c => acc * 10 + (c - 48)) 0
  rw [List.foldl_cons]
  refine key r _ ?_
  have := h c List.mem_cons_self
  omega
theorem lnum_eq (x : Str) : lnumB x = (numT x).isSome := by
  unfold lnumB numT figOfW minusB
  by_cases hm : x.cps.toList.head? = some 45
  · rw [if_pos hm, decide_eq_true hm, if_pos rfl]
    have hx0 : ¬ x = "0" := fun z => by
      rw [z] at hm
      exact absurd hm (by decide +kernel)
    rw [decide_eq_false hx0, Bool.false_or]
    unfold figT figB
    generalize tailS x = y
    by_cases h1 : (decide (1 ≤ y.length) && decide (y.length ≤ 20)) = true
    · rw [h1, Bool.true_and, Bool.true_and]
      by_cases h2 : y.cps.toList.all (isIn digS) = true
      · rw [h2, Bool.true_and, Bool.true_and]
        have ne : y.cps.toList ≠ [] := fun z => by
          have := len_cps y
          rw [z] at this
          rw [Bool.and_eq_true, decide_eq_true_eq] at h1
          rw [List.length_nil] at this
          omega
        cases hy : y.cps.toList with
        | nil => exact absurd hy ne
        | cons c r =>
          by_cases hc : c = 48
          · subst hc
            rw [show decide ((48 :: r).head? = some 48) = true from decide_eq_true rfl, Bool.not_true, Bool.or_false]
            by_cases h0 : y = "0"
            · rw [decide_eq_true h0, if_pos rfl]
              have : r = [] := by
                rw [h0, show ("0" : Str).cps.toList = [48] from by decide +kernel] at hy
                exact (List.cons.inj hy).2.symm
              rw [this]
              rfl
            · rw [decide_eq_false h0, if_neg Bool.false_ne_true]
              rfl
          · rw [show decide ((c :: r).head? = some 48) = false from decide_eq_false (fun z => hc (Option.some.inj z)), Bool.not_false, Bool.or_true, if_pos rfl]
            have hp := dig_pos (c := c) (r := r) (fun d hd => isIn_dig (List.all_eq_true.mp h2 d (by rw [hy]; exact hd))) hc
            show true = (if ((NumText.digitsVal (c :: r) : Nat) : Int) = 0 then none else some (-((NumText.digitsVal (c :: r) : Nat) : Int))).isSome
            rw [if_neg (by omega)]
            rfl
      · have h2' : y.cps.toList.all (isIn digS) = false := by cases h : y.cps.toList.all (isIn digS) with | true => exact absurd h h2 | false => rfl
        rw [h2', Bool.false_and, Bool.false_and, if_neg Bool.false_ne_true]
        rfl
    · have h1' : (decide (1 ≤ y.length) && decide (y.length ≤ 20)) = false := by cases h : (decide (1 ≤ y.length) && decide (y.length ≤ 20)) with | true => exact absurd h h1 | false => rfl
      rw [h1', Bool.false_and, Bool.false_and, if_neg Bool.false_ne_true]
      rfl
  · rw [if_neg hm, decide_eq_false hm, if_neg Bool.false_ne_true]
    unfold figT figB
    split
    · rename_i h
      exact h
    · rename_i h
      cases hq : ((decide (1 ≤ x.length) && decide (x.length ≤ 20)) && (x.cps.toList.all (isIn digS) && (decide (x = "0") || !decide (x.cps.toList.head? = some 48)))) with
      | true => exact absurd hq h
      | false => rfl
def spLNum : Sp := fun vs H Q _ => ∃ x : Str, vs = [.str x] ∧ x.length ≤ 10000 ∧ A7 x ∧ ∀ H', Same H H' → Q (.bl (numT x).isSome) H'
section
variable {P : Program} {w : World} {K : PySem.W.Frag} {mg : Str → Option Value} {base : Heap}
end
end Law

set_option Elab.async false
set_option linter.all false
set_option maxRecDepth 100000
set_option maxHeartbeats 1000000
namespace Law
open PySem PySem.Spec PyProof.Rows L2 Cor
theorem cutV_tail (xs : List V) (x : V) : cutV (x :: xs) (some 1) none = xs := by
  unfold cutV
  rw [HT.sIx_none, show HT.sIx (x :: xs).length 0 (some (1 : Int)) = 1 from by
    rw [show (some (1 : Int)) = some ((1 : Nat) : Int) from rfl, HT.sIx_nat, List.length_cons]
    omega]
  rw [List.drop_succ_cons, List.drop_zero, List.length_cons, Nat.add_sub_cancel]
  exact List.take_of_length_le (Nat.le_refl _)
theorem filt_all {ns : List Str} : (ns.filter fun n => !nameB n) = [] ↔ ns.all nameB = true := by
  rw [List.filter_eq_nil_iff, List.all_eq_true]
  constructor
  · intro h c hc
    have := h c hc
    cases hq : nameB c with
    | true => rfl
    | false => rw [hq] at this; exact absurd rfl this
  · intro h c hc
    rw [h c hc]
    decide
section
variable {P : Program} {w : World} {K : PySem.W.Frag} {mg : Str → Option Value} {base : Heap}
end
end Law

set_option Elab.async false
set_option linter.all false
set_option maxRecDepth 100000
set_option maxHeartbeats 1000000
namespace Law
open PySem PySem.Spec PyProof.Rows L2 Cor
def spDue : Sp := fun vs H Q _ => ∃ x : Str, vs = [.str x] ∧ x.length ≤ 10000 ∧ A7 x ∧ (∀ n, readRows (Txt.split x "\n") [] = .inl n → ∀ H', Same H H' → Q (.int (n : Nat)) H') ∧
  (∀ rs, readRows (Txt.split x "\n") [] = .inr rs → ∀ H', Same H H' → Q .non H')
theorem PathsAt.at {H : Hp} {vs : List V} {rs : List (List Str)} (h : PathsAt H vs rs) {i : Nat} {r : List Str} (hr : rs[i]? = some r) : ∃ v, vs[i]? = some v ∧ PathAt H v r := by
  induction h generalizing i with
  | nil => cases hr
  | @cons u us r' rs a _ ih =>
    cases i with
    | zero => cases hr; exact ⟨u, rfl, a⟩
    | succ i => exact ih hr
section
variable {P : Program} {w : World} {K : PySem.W.Frag} {mg : Str → Option Value} {base : Heap}
end
end Law

set_option Elab.async false
set_option linter.all false
set_option maxRecDepth 100000
set_option maxHeartbeats 1000000
/-! (x, v) != (x, v): the same object is equal to itself. -/
namespace Cor
open PySem PySem.Spec PyProof.Rows L2
def rNe2 (K : PySem.W.Frag) : R2 := fun x y H Q => ∃ (p q : Addr) (s v : V), x = .ref p ∧ y = .ref q ∧ SqT K H p [s, v] ∧ SqT K H q [s, v] ∧ flatV s = true ∧ eqV s s = true ∧ ((∃ a, v = .ref a) ∨ (flatV v = true ∧ eqV v v = true)) ∧ Q (.bl false) H
theorem op_ne2 {X : Cx} {k : Nat} (hr : Room k X.A) : OpR X (compareOp .NotEq) (rNe2 X.K) := by
  intro pins s σ H x y v u Q I rx ry h
  obtain ⟨p, q, s0, v0, rfl, rfl, hp, hq, fs, es, hv, qq⟩ := h
  cases (show v = Value.ref p from rx)
  cases (show u = Value.ref q from ry)
  obtain ⟨its, r1, t1, _⟩ := I.tuple hp
  obtain ⟨its2, r2, t2, _⟩ := I.tuple hq
  obtain ⟨a1, b1, rfl, ra1, rb1⟩ : ∃ a1 b1, its = [a1, b1] ∧ RelV s0 a1 ∧ RelV v0 b1 := by
    cases r1 with
    | cons h r => cases r with
      | cons h' r => cases r; exact ⟨_, _, rfl, h, h'⟩
  obtain ⟨a2, b2, rfl, ra2, rb2⟩ : ∃ a1 b1, its2 = [a1, b1] ∧ RelV s0 a1 ∧ RelV v0 b1 := by
    cases r2 with
    | cons h r => cases r with
      | cons h' r => cases r; exact ⟨_, _, rfl, h, h'⟩
  have e0 : ∀ A, SeqAt.EqAt A s a1 a2 true := fun A => by
    have z := eqAt_V (A := A) (s := s) ra1 ra2 fs fs
    rw [es] at z
    exact z
  have e1 : ∀ A, SeqAt.EqAt A s b1 b2 true := fun A => by
    rcases hv with ⟨a, rfl⟩ | ⟨f, e⟩
    · cases (show b1 = Value.ref a from rb1)
      cases (show b2 = Value.ref a from rb2)
      exact SeqAt.EqAt.same _
    · have z := eqAt_V (A := A) (s := s) rb1 rb2 f f
      rw [e] at z
      exact z
  have key := SeqAt.RcNeAt.tuples (A := X.A) (e := fun _ => true) t1 t2 hr.units0 (fun j h1 h2 => by
    match j, h1, h2 with
    | 0, _, _ => exact e0 _
    | 1, _, _ => exact e1 _
    | j + 2, h1, _ => exact absurd h1 (by show ¬ j + 2 < 2; omega))
  exact key X.prog X.w X.xe _ ⟨.bl false, H, I, rfl, qq⟩
end Cor

set_option Elab.async false
set_option linter.all false
set_option maxRecDepth 100000
set_option maxHeartbeats 1000000
namespace Law
open PySem PySem.Spec PyProof.Rows L2 Cor
structure XcS (K : PySem.W.Frag) (mg : Str → Option Value) (S CN : Addr) : Prop where
  mS : mg "StoreError" = some (.ref S)
  mN : mg "NoStart" = some (.ref CN)
  mV : mg "ValueError" = none
  xN : Exn K CN "ValueError.__new__" "ValueError.__init__"
  fV : PySem.W.findIn K (.ref CN) "row" = some none
  ex : PySem.W.exmOne K (.ref CN) (.ref S) = some true
  kN : PySem.W.kitOne K (.ref CN) (.ref CN) = some true
  kV : PySem.W.kitOne K (.ref CN) (.type "ValueError") = some true
def spReadL : Sp := fun vs H Q _ => ∃ x : Str, vs = [.str x] ∧ x.length ≤ 10000 ∧ A7 x ∧ (∀ n, readRows (Txt.split x "\n") [] = .inl n → ∀ p H', Same H H' → H' p = some (.tup [.str "row", .int (n : Nat)]) → Q (.ref p) H') ∧
  (∀ rs, readRows (Txt.split x "\n") [] = .inr rs → Shown rs ∧ ∀ p H', Same H H' → H' p = some (.tup [.str "text", .str (storeText rs)]) → Q (.ref p) H')
section
variable {P : Program} {w : World} {K : PySem.W.Frag} {mg : Str → Option Value} {base : Heap} {CN CP CS S fe gs : Addr}
end
end Law

set_option linter.all false
namespace Cor
theorem cons_above {n : Int} : ∀ {S : List Int}, Asc S → n ∈ S → (n :: above n S).Sublist S
  | [], _, h => by cases h
  | s :: S, hS, h => by
    obtain ⟨hs, hS'⟩ := List.pairwise_cons.mp hS
    rcases List.mem_cons.mp h with e | e
    · subst e
      rcases above_cons hS (Int.le_refl n) with ⟨_, z⟩ | ⟨z, _⟩
      · rw [z]; exact List.Sublist.refl _
      · omega
    · have hlt := hs n e
      have z : above n (s :: S) = above n S := by
        unfold above
        rw [List.filter_cons, if_neg (by simp; omega)]
      rw [z]
      exact (cons_above hS' e).cons s
theorem above_len {n : Int} {S : List Int} (hS : Asc S) (h : n ∈ S) : (above n S).length < S.length := by
  have := (cons_above hS h).length_le
  simp only [List.length_cons] at this
  omega
theorem mem_above {n m : Int} {S : List Int} : m ∈ above n S ↔ m ∈ S ∧ n < m := by
  unfold above
  rw [List.mem_filter]
  simp
theorem mkNd_cn' {g : Lf → Prop} {n : Int} {S : List Int} {y o : Tr} (hS : Asc S) (h : n ∈ S) (hy : Cn g (above n S) y) (ho : Cn g (above n S) o) : Cn g S (mkNd n y o) := (mkNd_cn hy ho).sub (cons_above hS h)
theorem put_true {r : Rho} {n : Int} {b : Bool} (h : r n = b) : r.put n b = r := by rw [← h]; exact put_self
/-- the operations -/
inductive Op where
  | add | sub | mul | lt | le | and | or | eq
def Op.kin : Op → Bool
  | .and | .or => true
  | _ => false
def Op.kout : Op → Bool
  | .add | .sub | .mul => false
  | _ => true
def Op.ap : Op → Lf → Lf → Lf
  | .add, .i a, .i b => .i (a + b)
  | .sub, .i a, .i b => .i (a - b)
  | .mul, .i a, .i b => .i (a * b)
  | .lt, .i a, .i b => .b (decide (a < b))
  | .le, .i a, .i b => .b (decide (a ≤ b))
  | .and, .b a, .b b => .b (a && b)
  | .or, .b a, .b b => .b (a || b)
  | .eq, .i a, .i b => .b (decide (a = b))
  | _, a, _ => a
def Op.sign : Op → PySem.Str
  | .add => "+" | .sub => "-" | .mul => "*" | .lt => "<" | .le => "<=" | .and => "and" | .or => "or" | .eq => "=="
theorem pow_add_le {B B' : Nat} : 2 ^ B + 2 ^ B' ≤ 2 ^ (B + B' + 1) := by
  have h1 : 2 ^ B ≤ 2 ^ (B + B') := Nat.pow_le_pow_right (by decide) (by omega)
  have h2 : 2 ^ B' ≤ 2 ^ (B + B') := Nat.pow_le_pow_right (by decide) (by omega)
  rw [Nat.pow_succ]
  omega
theorem Lg.int {B : Nat} : ∀ {a : Lf}, Lg false B a → ∃ n, a = .i n ∧ n.natAbs < 2 ^ B
  | .i n, h => ⟨n, rfl, h.2⟩
  | .b _, h => by cases h
theorem Lg.truth {B : Nat} : ∀ {a : Lf}, Lg true B a → ∃ v, a = .b v
  | .b v, _ => ⟨v, rfl⟩
  | .i _, h => by cases h.1
theorem Op.bound {o : Op} {a b : Lf} {B B' : Nat} (ha : Lg o.kin B a) (hb : Lg o.kin B' b) : Lg o.kout (B + B' + 1) (o.ap a b) := by
  have p1 := @pow_add_le B B'
  cases o with
  | add =>
    obtain ⟨x, rfl, h1⟩ := Lg.int ha
    obtain ⟨y, rfl, h2⟩ := Lg.int hb
    refine ⟨rfl, ?_⟩
    show (x + y).natAbs < _
    omega
  | sub =>
    obtain ⟨x, rfl, h1⟩ := Lg.int ha
    obtain ⟨y, rfl, h2⟩ := Lg.int hb
    refine ⟨rfl, ?_⟩
    show (x - y).natAbs < _
    omega
  | mul =>
    obtain ⟨x, rfl, h1⟩ := Lg.int ha
    obtain ⟨y, rfl, h2⟩ := Lg.int hb
    refine ⟨rfl, ?_⟩
    show (x * y).natAbs < _
    rw [Int.natAbs_mul]
    have h3 : x.natAbs * y.natAbs ≤ 2 ^ B * 2 ^ B' := Nat.mul_le_mul (Nat.le_of_lt h1) (Nat.le_of_lt h2)
    rw [← Nat.pow_add] at h3
    exact Nat.lt_of_le_of_lt h3 (Nat.pow_lt_pow_right (by decide) (by omega))
  | lt =>
    obtain ⟨x, rfl, h1⟩ := Lg.int ha
    obtain ⟨y, rfl, h2⟩ := Lg.int hb
    rfl
  | le =>
    obtain ⟨x, rfl, h1⟩ := Lg.int ha
    obtain ⟨y, rfl, h2⟩ := Lg.int hb
    rfl
  | eq =>
    obtain ⟨x, rfl, h1⟩ := Lg.int ha
    obtain ⟨y, rfl, h2⟩ := Lg.int hb
    rfl
  | and =>
    obtain ⟨x, rfl⟩ := Lg.truth ha
    obtain ⟨y, rfl⟩ := Lg.truth hb
    rfl
  | or =>
    obtain ⟨x, rfl⟩ := Lg.truth ha
    obtain ⟨y, rfl⟩ := Lg.truth hb
    rfl
end Cor

set_option Elab.async false
set_option linter.all false
set_option maxRecDepth 100000
set_option maxHeartbeats 1000000
namespace Cor
open PySem PySem.Spec PyProof.Rows L2
/-- repr(x), x a list or a tuple of data -/
def rRepr (K : PySem.W.Frag) : List V → Hp → VK → Prop := fun xs H Q => ∃ (a : Addr) (d : PyData), xs = [.ref a] ∧ Dp K H (.ref a) d ∧ d.showable = true ∧ d.hasDict = false ∧ d.shown.length ≤ sizeLine ∧ d.depth ≤ 60 ∧ Q (.str d.shown) H
theorem call_reprL {X : Cx} (gd : X.A.guards = some []) (hu : X.A.units + 64 < cLine) : CallR X (.builtin "repr") (rRepr X.K) := by
  intro pins s σ H xs us Q I r h
  obtain ⟨a, d, rfl, hd, hs, hn, hl, hdep, q⟩ := h
  cases r with
  | @cons _ u _ _ rx rr =>
    cases rr
    obtain rfl : u = Value.ref a := rx
    obtain ⟨as, rd⟩ := Dp.reads I d _ _ hd (show RelV (.ref a) (Value.ref a) from rfl)
    exact repr_of_reads' rd hs (fun z => by rw [hn] at z; cases z) gd (by omega) (fun _ _ z => z) (fun h' u tk k => ⟨.str d.shown, H, I.kept (t' := tk) k, ⟨_, rfl⟩, q⟩) hl
end Cor

set_option Elab.async false
set_option linter.all false
set_option maxRecDepth 100000
set_option maxHeartbeats 2000000
/-! repr: of data, of an instance by its own __repr__; texts that are shown as they are; unlike trees are shown unlike. -/
namespace Cor
open PySem PySem.Spec PyProof.Rows L2
/-- repr(x), x data -/
def rReprD (K : PySem.W.Frag) : List V → Hp → VK → Prop := fun xs H Q => ∃ (v : V) (d : PyData), xs = [v] ∧ Dp K H v d ∧ d.showable = true ∧ d.hasDict = false ∧ d.shown.length ≤ sizeLine ∧ d.depth ≤ 60 ∧ Q (.str d.shown) H
theorem call_reprD {X : Cx} (gd : X.A.guards = some []) (hu : X.A.units + 64 < cLine) : CallR X (.builtin "repr") (rReprD X.K) := by
  intro pins s σ H xs us Q I r h
  obtain ⟨v, d, rfl, hd, hs, hn, hl, hdep, q⟩ := h
  cases r with
  | @cons _ u _ _ rx rr =>
    cases rr
    cases hd with
    | non =>
      cases rx
      exact PySem.P.repr_of_none ⟨.str "None", H, I.tok _, ⟨_, rfl⟩, q⟩
    | bl b =>
      cases rx
      exact PySem.P.repr_of_bool ⟨.str _, H, I.tok _, ⟨_, rfl⟩, q⟩
    | int i =>
      obtain ⟨t, rfl⟩ := rx
      exact PySem.P.repr_of_int (of_decide_eq_true hs) ⟨.str _, H, I.tok _, ⟨_, rfl⟩, q⟩
    | str x =>
      obtain ⟨t, rfl⟩ := rx
      exact PySem.P.repr_of_str ⟨.str _, H, I.tok _, ⟨_, rfl⟩, q⟩ hl
    | lst h1 h2 =>
      cases rx
      exact call_reprL gd hu pins s σ H [.ref _] _ Q I (.cons rfl .nil) ⟨_, _, rfl, .lst h1 h2, hs, hn, hl, hdep, q⟩
    | tup h1 h2 =>
      cases rx
      exact call_reprL gd hu pins s σ H [.ref _] _ Q I (.cons rfl .nil) ⟨_, _, rfl, .tup h1 h2, hs, hn, hl, hdep, q⟩
section
variable {prog : Program} {w : World} {A : Around} {E : Value → Shared → Prop} {s : Shared} {K : PySem.W.Frag} {x C f : Addr} {ox : Obj} {od : Option Obj}
theorem repr_own {Q : Value → Shared → Prop} (hu : A.units + 1 < cLine) (X : K.In s.heap) (I : PySem.W.InstAt s.heap x ox C od) (hr : PySem.W.findIn K (.ref C) "__repr__" = some (some (.ref f))) (hf : PySem.W.isFn K (.ref f) = true)
    (h : wpAny (model prog w) A.in1 (call (.ref f) [.ref x]) (fun r s' => ∃ y u, r = .str y u ∧ Q r s') E s) : wpAny (model prog w) A (call (.builtin "repr") [.ref x]) Q E s := by
  refine Calls.call_function_entry F.kind_repr F.plain_repr F.entry_repr (F.args_repr1 _) ?_
  unfold Builtin.«repr»
  refine wpAny_bind (m := oneArg "repr" _) (wpAny_pure ?_)
  refine wpAny_bind (m := cRoomFor _ _) (wpAny_cRoomFor (by show A.units + 1 < cLine; exact hu) ?_)
  refine wpAny_bind (m := specialOf (.ref x) (Str.ofString "__repr__")) ?_
  unfold specialOf
  refine wpAny_bind (I.type.here ((PySem.W.looks_findIn X hr).here ?_))
  refine wpAny_bind (m := callSpecialIfBound? (.ref x) (Str.ofString "__repr__") _) (PySem.W.ifBound_K X I hr hf (wpAny_mono h (fun r s' hz => ?_) fun _ _ y => y))
  obtain ⟨y, u, rfl, q⟩ := hz
  refine wpAny_bind (wpAny_isInstance (T := "str") (b := true) (typeIs_str _ _ _) isSubtype_str_str ?_)
  exact wpAny_pure ⟨_, rfl, q⟩
end
/-- repr(x), x an instance of the class at C whose __repr__ is at g -/
theorem call_reprO {X : Cx} {C g : Addr} {k : Nat} {sp : Sp} (hs : PySem.W.findIn X.K (.ref C) "__repr__" = some (some (.ref g))) (M : MdR X.prog X.w X.K X.mg X.base k g sp) (hr : Room (k + 1) X.A) : CallR X (.builtin "repr") (rStrO C sp) := by
  intro pins s σ H xs us Q I r h
  obtain ⟨a, dx, fs, rfl, ha, q⟩ := h
  rw [Vals.ref1 r]
  obtain ⟨ox, od, J⟩ := ins_at I ha
  have hr1 : Room k X.A.in1 := Room.in1 hr
  refine repr_own (hu_of hr) I.kIn J hs M.2.1 (wpAny_mono (wpAny_call (SlX.run_at (us := [.ref a]) (ws := [.ref a]) M.1 hr1 I.env0.in1 pass0 I (.cons rfl .nil) q)) (fun w s' z => ?_) fun _ _ x => x)
  obtain ⟨z', H', I', rz, y, rfl, qz⟩ := z
  obtain ⟨t, rfl⟩ := rz
  exact ⟨y, t, rfl, .str y, H', I', ⟨t, rfl⟩, qz⟩
/-! ### texts that are shown as they are -/
def signOk (c : Nat) : Bool := decide (32 ≤ c) && decide (c < 127) && !(c == 39) && !(c == 92)
def Calm (x : Str) : Prop := ∀ c ∈ x.cps.toList, signOk c = true
theorem print_ok : (List.range 127).all (fun c => decide (c < 32) || PySem.Unicode.isPrintable c) = true := by decide +kernel
theorem calm_char {c : Nat} (h : signOk c = true) : Builtin.Str.reprChar 39 c = [c] := by
  unfold signOk at h
  simp only [Bool.and_eq_true, decide_eq_true_eq, Bool.not_eq_true', beq_eq_false_iff_ne] at h
  obtain ⟨⟨⟨h1, h2⟩, h3⟩, h4⟩ := h
  have p := List.all_eq_true.mp print_ok c (List.mem_range.mpr h2)
  rw [Bool.or_eq_true] at p
  have p : PySem.Unicode.isPrintable c = true := by
    rcases p with p | p
    · have := of_decide_eq_true p; omega
    · exact p
  unfold Builtin.Str.reprChar
  have n10 : (c == 10) = false := by rw [beq_eq_false_iff_ne]; omega
  have n13 : (c == 13) = false := by rw [beq_eq_false_iff_ne]; omega
  have n9 : (c == 9) = false := by rw [beq_eq_false_iff_ne]; omega
  have n39 : (c == 39) = false := by rw [beq_eq_false_iff_ne]; exact h3
  have n92 : (c == 92) = false := by rw [beq_eq_false_iff_ne]; exact h4
  simp only [n10, n13, n9, n39, n92, p, Bool.or_self, Bool.false_eq_true, if_false, if_true]
theorem calm_fold : ∀ (l : List Nat) (a : Array Nat), (∀ c ∈ l, signOk c = true) → l.foldl (fun out c => out ++ (Builtin.Str.reprChar 39 c).toArray) a = a ++ l.toArray
  | [], a, _ => by simp
  | c :: l, a, h => by
    rw [List.foldl_cons, calm_char (h c List.mem_cons_self), calm_fold l _ fun d hd => h d (List.mem_cons_of_mem _ hd)]
    simp
theorem calm_repr {x : Str} (h : Calm x) : reprText x = "'" ++ x ++ "'" := by
  have q : reprQuote x = 39 := by
    unfold reprQuote
    have n : x.cps.contains 39 = false := by
      rw [← Bool.not_eq_true, Array.contains_iff_mem]
      intro z
      have := h 39 (Array.mem_toList_iff.mpr z)
      revert this
      decide
    rw [n]
    rfl
  unfold reprText
  rw [q, ← Array.foldl_toList, calm_fold _ _ h]
  have e : ("'" : Str) = ⟨#[39]⟩ := by decide +kernel
  show Str.mk _ = ("'" : Str) ++ x ++ ("'" : Str)
  rw [e]
  have a1 : ∀ a b : Str, (a ++ b).cps = a.cps ++ b.cps := Str.cps_append
  have fin : (⟨#[39]⟩ ++ x ++ ⟨#[39]⟩ : Str).cps = (#[39] ++ x.cps) ++ #[39] := by rw [a1, a1]
  have : (⟨#[39]⟩ ++ x ++ ⟨#[39]⟩ : Str) = ⟨(#[39] ++ x.cps) ++ #[39]⟩ := by rw [← fin]
  rw [this]
  simp
theorem Calm.append {x y : Str} (h : Calm x) (h' : Calm y) : Calm (x ++ y) := fun c hc => by
  rw [Str.cps_append, Array.toList_append, List.mem_append] at hc
  exact hc.elim (h c) (h' c)
theorem calm_int (n : Int) : Calm (Str.ofString (toString n)) := fun c hc => by
  by_cases h : c = 45 ∨ (48 ≤ c ∧ c ≤ 57)
  · unfold signOk
    rcases h with rfl | ⟨h1, h2⟩
    · decide
    · simp only [Bool.and_eq_true, decide_eq_true_eq, Bool.not_eq_true', beq_eq_false_iff_ne]
      omega
  · exact absurd hc (int_text_free' c (by omega) n)
/-! ### unlike trees are shown unlike -/
def Ending (r : List Nat) : Prop := ∀ c, r.head? = some c → c = 44 ∨ c = 41
theorem cut_at : ∀ {a b r r' : List Nat}, (∀ c ∈ a, c ≠ 44 ∧ c ≠ 41) → (∀ c ∈ b, c ≠ 44 ∧ c ≠ 41) → Ending r → Ending r' → a ++ r = b ++ r' → a = b ∧ r = r'
  | [], [], _, _, _, _, _, _, e => ⟨rfl, e⟩
  | [], d :: b, r, r', _, hb, hr, _, e => by
    have e : r = d :: (b ++ r') := e
    have := hr d (by rw [e]; rfl)
    have := hb d List.mem_cons_self
    omega
  | c :: a, [], r, r', ha, _, _, hr', e => by
    have e : c :: (a ++ r) = r' := e
    have := hr' c (by rw [← e]; rfl)
    have := ha c List.mem_cons_self
    omega
  | c :: a, d :: b, r, r', ha, hb, hr, hr', e => by
    have e : c :: (a ++ r) = d :: (b ++ r') := e
    obtain ⟨e1, e2⟩ := List.cons.inj e
    obtain ⟨h1, h2⟩ := cut_at (fun x hx => ha x (List.mem_cons_of_mem _ hx)) (fun x hx => hb x (List.mem_cons_of_mem _ hx)) hr hr' e2
    exact ⟨by rw [e1, h1], h2⟩
def sgn (x : Str) : List Nat := x.cps.toList
theorem sgn_append (x y : Str) : sgn (x ++ y) = sgn x ++ sgn y := by unfold sgn; rw [Str.cps_append, Array.toList_append]
theorem sgn_inj {x y : Str} (h : sgn x = sgn y) : x = y := by
  have e : x.cps = y.cps := Array.toList_inj.mp h
  cases x
  cases y
  exact congrArg Str.mk e
theorem ofString_inj {a b : String} (h : Str.ofString a = Str.ofString b) : a = b := by
  rw [Str.ofString_eq_toList, Str.ofString_eq_toList] at h
  have h1 : a.toList.map Char.toNat = b.toList.map Char.toNat := by
    have := congrArg (fun s => s.cps.toList) h
    simpa using this
  have inj : ∀ {l l' : List Char}, l.map Char.toNat = l'.map Char.toNat → l = l' := by
    intro l
    induction l with
    | nil => intro l' e; cases l' with
      | nil => rfl
      | cons _ _ => cases e
    | cons c l ih => intro l' e; cases l' with
      | nil => cases e
      | cons d l' =>
        obtain ⟨e1, e2⟩ := List.cons.inj e
        have ec : c = d := Char.ext (UInt32.toNat_inj.mp e1)
        rw [ec, ih e2]
  exact String.toList_inj.mp (inj h1)
theorem int_text_inj {n m : Int} (h : Str.ofString (toString n) = Str.ofString (toString m)) : n = m := Int.repr_injective (ofString_inj h)
theorem shown_nd (n : Int) (y o : Tr) : sgn (Tr.nd n y o).d.shown = 40 :: (sgn (Str.ofString (toString n)) ++ 44 :: 32 :: (sgn y.d.shown ++ 44 :: 32 :: (sgn o.d.shown ++ [41]))) := by
  have e : (Tr.nd n y o).d = .tuple [.int n, y.d, o.d] := rfl
  rw [e, PyData.shown_tuple, PyData.shownAll_cons, PyData.shownAll_cons, PyData.shownAll_cons, PyData.shownAll_nil, PyData.shown_int]
  have s1 : sgn (Str.ofString "(") = [40] := by decide +kernel
  have s2 : sgn (Str.ofString ", ") = [44, 32] := by decide +kernel
  have s3 : sgn (Str.ofString ")") = [41] := by decide +kernel
  have l3 : ([PyData.int n, y.d, o.d].length == 1) = false := rfl
  rw [l3]
  simp only [Str.join, Bool.false_eq_true, if_false, sgn_append, s1, s2, s3]
  simp
theorem leaf_free : ∀ (l : Lf) (c : Nat), c ∈ sgn (Tr.lf l).d.shown → c ≠ 44 ∧ c ≠ 41 ∧ c ≠ 40
  | .i n, c, hc => by
    have f := fun k hk => int_text_free' k hk n
    refine ⟨?_, ?_, ?_⟩ <;> rintro rfl
    · exact f 44 (by decide) hc
    · exact f 41 (by decide) hc
    · exact f 40 (by decide) hc
  | .b true, c, hc => by
    have : ∀ c ∈ sgn (Tr.lf (.b true)).d.shown, c ≠ 44 ∧ c ≠ 41 ∧ c ≠ 40 := by decide +kernel
    exact this c hc
  | .b false, c, hc => by
    have : ∀ c ∈ sgn (Tr.lf (.b false)).d.shown, c ≠ 44 ∧ c ≠ 41 ∧ c ≠ 40 := by decide +kernel
    exact this c hc
theorem leaf_inj : ∀ {l l' : Lf}, (Tr.lf l).d.shown = (Tr.lf l').d.shown → l = l'
  | .i n, .i m, h => by rw [int_text_inj h]
  | .i n, .b true, h => by
    have z : 84 ∈ (Str.ofString (toString n)).cps.toList := by
      rw [show Str.ofString (toString n) = (Tr.lf (.b true)).d.shown from h]
      decide +kernel
    exact absurd z (int_text_free' 84 (by decide) n)
  | .i n, .b false, h => by
    have z : 70 ∈ (Str.ofString (toString n)).cps.toList := by
      rw [show Str.ofString (toString n) = (Tr.lf (.b false)).d.shown from h]
      decide +kernel
    exact absurd z (int_text_free' 70 (by decide) n)
  | .b true, .i n, h => by
    have z : 84 ∈ (Str.ofString (toString n)).cps.toList := by
      rw [show Str.ofString (toString n) = (Tr.lf (.b true)).d.shown from h.symm]
      decide +kernel
    exact absurd z (int_text_free' 84 (by decide) n)
  | .b false, .i n, h => by
    have z : 70 ∈ (Str.ofString (toString n)).cps.toList := by
      rw [show Str.ofString (toString n) = (Tr.lf (.b false)).d.shown from h.symm]
      decide +kernel
    exact absurd z (int_text_free' 70 (by decide) n)
  | .b true, .b true, _ => rfl
  | .b false, .b false, _ => rfl
  | .b true, .b false, h => absurd h (by decide +kernel)
  | .b false, .b true, h => absurd h (by decide +kernel)
theorem ending_cons {c : Nat} {r : List Nat} (h : c = 44 ∨ c = 41) : Ending (c :: r) := fun d e => by
  cases e
  exact h
theorem int_free (n : Int) : ∀ c ∈ sgn (Str.ofString (toString n)), c ≠ 44 ∧ c ≠ 41 := fun c hc => ⟨(leaf_free (.i n) c hc).1, (leaf_free (.i n) c hc).2.1⟩
theorem no_open {l : Lf} {r : List Nat} {x : List Nat} (hr : Ending r) (e : sgn (Tr.lf l).d.shown ++ r = 40 :: x) : False := by
  cases h : sgn (Tr.lf l).d.shown with
  | nil =>
    rw [h] at e
    have := hr 40 (by rw [show r = 40 :: x from e]; rfl)
    omega
  | cons c s =>
    rw [h] at e
    have hc := leaf_free l c (by rw [h]; exact List.mem_cons_self)
    have : c = 40 := (List.cons.inj e).1
    omega
theorem shown_cut : ∀ {t t' : Tr} {r r' : List Nat}, Ending r → Ending r' → sgn t.d.shown ++ r = sgn t'.d.shown ++ r' → t = t' ∧ r = r'
  | .lf l, .lf l', r, r', hr, hr', e => by
    obtain ⟨h1, h2⟩ := cut_at (fun c hc => ⟨(leaf_free l c hc).1, (leaf_free l c hc).2.1⟩) (fun c hc => ⟨(leaf_free l' c hc).1, (leaf_free l' c hc).2.1⟩) hr hr' e
    exact ⟨by rw [leaf_inj (sgn_inj h1)], h2⟩
  | .lf l, .nd n y o, r, r', hr, _, e => by
    rw [shown_nd] at e
    exact (no_open hr e).elim
  | .nd n y o, .lf l, r, r', _, hr', e => by
    rw [shown_nd] at e
    exact (no_open hr' e.symm).elim
  | .nd n y o, .nd m y' o', r, r', hr, hr', e => by
    rw [shown_nd, shown_nd] at e
    simp only [List.cons_append, List.append_assoc, List.cons.injEq, true_and] at e
    obtain ⟨h1, e⟩ := cut_at (int_free n) (int_free m) (ending_cons (.inl rfl)) (ending_cons (.inl rfl)) e
    simp only [List.cons.injEq, true_and] at e
    obtain ⟨h2, e⟩ := shown_cut (t := y) (t' := y') (ending_cons (.inl rfl)) (ending_cons (.inl rfl)) e
    simp only [List.cons.injEq, true_and] at e
    obtain ⟨h3, e⟩ := shown_cut (t := o) (t' := o') (ending_cons (.inr rfl)) (ending_cons (.inr rfl)) e
    simp only [List.nil_append, List.cons.injEq, true_and] at e
    exact ⟨by rw [int_text_inj (sgn_inj h1), h2, h3], e⟩
theorem shown_inj {t t' : Tr} (h : t.d.shown = t'.d.shown) : t = t' := (shown_cut (r := []) (r' := []) (fun _ z => by cases z) (fun _ z => by cases z) (by rw [h])).1
end Cor

set_option Elab.async false
set_option linter.all false
set_option maxRecDepth 100000
set_option maxHeartbeats 2000000
/-! Lambdas with captured names, handed to defs and called there: the captured cells are lent to the callee's heap. -/
namespace Cor
open PySem PySem.Spec PyProof.Rows L2 LamX NdefX
/-- the object at f is the lambda with the words F and the body e -/
def LamO (f : Addr) (F : NF) (e : Expr) : HO := .ext fun h => ∃ (od : Option Addr) (sl : Array (Option Value)) (pm ctv : Value), h.get? f = some (⟨.type "function", od, .func (PySem.W.kla_fn "<lambda>" F.qual F.params e F.scope F.cl pm (.ref F.c) ctv), sl⟩ : Obj)
/-- the object at c is the cell o, which holds v -/
def CellO (c : Addr) (o : Obj) (v : V) : HO := .ext fun h => h.get? c = some o ∧ ∃ u, o.data = .cell (some u) ∧ RelV v u
def Lent (H : Hp) (c : Addr) (v : V) : Prop := ∃ o, H c = some (CellO c o v)
/-- all that stood stands, but things known by what is true of them -/
def Kx (H H' : Hp) : Prop := ∀ b o, (∀ φ, o ≠ .ext φ) → H b = some o → H' b = some o
theorem Kx.refl {H : Hp} : Kx H H := fun _ _ _ e => e
theorem Kx.trans {H H1 H2 : Hp} (a : Kx H H1) (b : Kx H1 H2) : Kx H H2 := fun c o n e => b c o n (a c o n e)
theorem _root_.L2.Same.kx {H H' : Hp} (s : Same H H') : Kx H H' := fun b o _ e => s b o e
theorem lamO_at {P : Program} {w : World} {H : Hp} {h : Heap} {f : Addr} {F : NF} {e : Expr} (hok : HOk P w H h) (z : H f = some (LamO f F e)) : ∃ (od : Option Addr) (sl : Array (Option Value)) (pm ctv : Value), h.get? f = some (⟨.type "function", od, .func (PySem.W.kla_fn "<lambda>" F.qual F.params e F.scope F.cl pm (.ref F.c) ctv), sl⟩ : Obj) := (hok f _ z).1
theorem Lent.at {P : Program} {w : World} {H : Hp} {h : Heap} {c : Addr} {o : Obj} {v : V} (hok : HOk P w H h) (z : H c = some (CellO c o v)) : h.get? c = some o ∧ ∃ u, o.data = .cell (some u) ∧ RelV v u := (hok c _ z).1
section
variable {X : Cx} {pins : List (Addr × Obj)} {σ : L2.St} {H : Hp} {s : Shared}
theorem inv_lam {F : NF} {e : Expr} {o : Obj} {t' : Nat} {pm ctv : Value} (I : Inv X pins σ H s) (ho : o = PySem.W.kla_obj "<lambda>" F.qual F.params e F.scope F.cl pm F.c ctv) :
    Inv X pins σ (upd H s.heap.objs.size (LamO s.heap.objs.size F e)) { s with heap := s.heap.push o, toks := t' } := by
  subst ho
  refine I.laid (a := s.heap.objs.size) (fun b u z => Heap.get?_push_of_some _ z) (Nat.le_refl _) ?_
  have z : (s.heap.push (PySem.W.kla_obj "<lambda>" F.qual F.params e F.scope F.cl pm F.c ctv)).get? s.heap.objs.size = some (PySem.W.kla_obj "<lambda>" F.qual F.params e F.scope F.cl pm F.c ctv) := Heap.get?_push_size _ rfl
  exact ⟨⟨_, _, pm, ctv, z⟩, ⟨_, z⟩, fun h1 h2 ⟨od, sl, p, t, y⟩ st => ⟨od, sl, p, t, st _ y⟩⟩
/-- the words of the lambda that X makes -/
def lamNF (X : Cx) (params : Arguments) (scope : Scope) (c' : Addr) : NF := ⟨"<lambda>", X.env.qual ++ "<lambda>", params, [], scope, cloFrom X.env.cells scope.names [], c'⟩
theorem lamV_make {T : List (Addr × Str)} {c P : Addr} {params : Arguments} {body : Expr} {scope : Scope} {pos : Pos} {E : Value → Shared → Prop} {Q : Value → Shared → Prop} (I : Inv X pins σ H s) (TB : TabB X.base X.mg c P) (hcode : X.env.code = .ref c)
    (hm : (P, X.env.qual ++ "<lambda>") ∈ T) (hu : ∀ p ∈ T, p.1 = P → p.2 = X.env.qual ++ "<lambda>") (hT : Tabs T H) (hdef : defaultsOf params X.env = ([], [])) (hfree : ∀ y ∈ scope.names, y.2 = .free → ∃ c, X.env.cells.lookup y.1 = some c)
    (h : ∀ (f c' : Addr) (H1 : Hp) (s' : Shared), Inv X pins σ H1 s' → ExtN H H1 → Tabs T H1 → H f = none → H1 f = some (LamO f (lamNF X params scope c') body) → H1 c' = some (CodeO c' (X.env.qual ++ "<lambda>")) → Q (.ref f) s') :
    wpAny (model X.prog X.w) X.A (eval (.Lambda params body scope pos) X.env) Q E s := by
  obtain ⟨arr, eP, tri, told⟩ := hT _ hm
  refine PySem.W.kla_eval hdef ?_
  have bP := TB.bm.keeps I.bk
  have gP : s.heap.get? P = some { cls := .none, data := .fields arr } := I.hok P _ eP
  cases hc : codeAmong pos arr.toList with
  | none =>
    refine PySem.W.kla_makeFunction (mg := X.mg) (c := c) (P := P) (ps := arr) (closure_ok hfree) I.ok.glob (I.mod.glob.keeps I.bk) hcode (TB.code.keeps I.bk) gP tri hc TB.gP bP fun c' ctv h' tk ext ge lt rec tb => ?_
    obtain ⟨c2, oc, vs, t, e2, hoc, hd, hv⟩ := rec
    cases e2
    have freeC : H c' = none := I.hok.fresh ge
    have I1 := inv_table (t' := tk) (more := #[rawInt pos.line, rawInt pos.col, .ref c']) (h' := h') I eP (fun b o nb z => ext b o nb z) tb ge ⟨oc, vs, t, hoc, hd, hv⟩
    have grow : ExtN H (upd (upd H P (.tbl (arr ++ #[rawInt pos.line, rawInt pos.col, .ref c']))) c' (CodeO c' (X.env.qual ++ "<lambda>"))) := fun b o z n => by
      rw [upd_ne (ne_of_none z freeC), upd_ne (fun y => n arr (Option.some.inj (z.symm.trans (by rw [y]; exact eP))))]
      exact z
    have flat : (arr ++ #[rawInt pos.line, rawInt pos.col, .ref c']).toList = arr.toList ++ [rawInt pos.line, rawInt pos.col, .ref c'] := by simp
    have T1 : Tabs T (upd (upd H P (.tbl (arr ++ #[rawInt pos.line, rawInt pos.col, .ref c']))) c' (CodeO c' (X.env.qual ++ "<lambda>"))) := fun p hp => by
      by_cases hb : p.1 = P
      · rw [hu p hp hb, hb]
        refine ⟨_, by rw [upd_ne (ne_of_none eP freeC), upd_same], by rw [flat]; exact PySem.TriplesOk_snoc _ _ _ _ tri, fun p' cv found => ?_⟩
        rw [flat] at found
        rcases among_app _ tri found with z | z
        · obtain ⟨c0, y1, y2⟩ := told p' cv z
          exact ⟨c0, y1, grow _ _ y2 codeO_ne⟩
        · exact ⟨c', z, upd_same⟩
      · obtain ⟨qs, y1, y2, y3⟩ := hT p hp
        refine ⟨qs, by rw [upd_ne (ne_of_none y1 freeC), upd_ne hb]; exact y1, y2, fun p' cv found => ?_⟩
        obtain ⟨c0, z1, z2⟩ := y3 p' cv found
        exact ⟨c0, z1, grow _ _ z2 codeO_ne⟩
    have newF := I1.hok.fresh (Nat.le_refl _)
    have I2 := inv_lam (F := lamNF X params scope c') (e := body) (t' := tk) (pm := (X.mg "__name__").getD .none) (ctv := ctv) I1 rfl
    refine h h'.objs.size c' _ _ I2 (fun b o z n => ?_) (T1.ext fun b o z => ?_) (I.hok.fresh (Nat.le_trans ge (Nat.le_of_lt lt))) upd_same ?_
    · have y := grow b o z n
      exact (upd_ne (ne_of_none y newF)).trans y
    · exact (upd_ne (ne_of_none z newF)).trans z
    · exact (upd_ne (Nat.ne_of_lt lt)).trans upd_same
  | some cv =>
    obtain ⟨c', z, known⟩ := told pos cv hc
    subst z
    refine PySem.W.kla_makeFunctionHit (mg := X.mg) (c := c) (P := P) (ps := arr) (closure_ok hfree) I.ok.glob (I.mod.glob.keeps I.bk) hcode (TB.code.keeps I.bk) gP tri hc bP fun ctv h' tk kp sz => ?_
    have I1 : Inv X pins σ H { s with heap := h', toks := tk } := I.kept kp
    have newF : H h'.objs.size = none := I1.hok.fresh (Nat.le_refl _)
    have I2 := inv_lam (F := lamNF X params scope c') (e := body) (t' := tk) (pm := (X.mg "__name__").getD .none) (ctv := ctv) I1 rfl
    refine h h'.objs.size c' _ _ I2 (fun b o z n => ?_) (hT.ext fun b o z => ?_) newF upd_same ?_
    · exact (upd_ne (ne_of_none z newF)).trans z
    · exact (upd_ne (ne_of_none z newF)).trans z
    · exact (upd_ne (ne_of_none known newF)).trans known
end
/-- the reading of a lambda: a new function, whose captured cells are told by cl -/
def tLamV (T : List (Addr × Str)) (e : Expr) (mk : Addr → NF) : TE := fun σ H Q => Tabs T H ∧ ∀ (f c' : Addr) (H1 : Hp), ExtN H H1 → Tabs T H1 → H f = none → H1 f = some (LamO f (mk c') e) → H1 c' = some (CodeO c' (mk c').qual) →
  (∀ x y a, (mk c').cl.lookup x = some a → (mk c').cl.lookup y = some a → x = y) → (∀ y a, (mk c').cl.lookup y = some a → (y, NameKind.free) ∈ (mk c').scope.names) → Q (.ref f) H1
section
variable {X : Cx}
theorem pe_lamV {T : List (Addr × Str)} {c P : Addr} {params : Arguments} {body : Expr} {scope : Scope} {pos : Pos} (TB : TabB X.base X.mg c P) (hcode : X.env.code = .ref c) (hm : (P, X.env.qual ++ "<lambda>") ∈ T) (hu : ∀ p ∈ T, p.1 = P → p.2 = X.env.qual ++ "<lambda>")
    (hfree : ∀ y ∈ scope.names, y.2 = .free → X.env.scope.names.lookup y.1 = some .cell ∨ X.env.scope.names.lookup y.1 = some .free) (hdef : defaultsOf params X.env = ([], []) := by rfl) :
    PE X (.Lambda params body scope pos) (tLamV T body (lamNF X params scope)) := by
  refine ⟨fun pins s σ H Q I ⟨hT, h⟩ => ?_⟩
  have hfr : ∀ y ∈ scope.names, y.2 = .free → ∃ c, X.env.cells.lookup y.1 = some c := fun y hy e => (hfree y hy e).elim (fun z => I.ok.has _ (.inl z)) fun z => I.ok.has _ (.inr z)
  refine lamV_make I TB hcode hm hu hT hdef hfr fun f c' H1 s' I1 eN T1 f0 f1 c1 => ?_
  refine ⟨.ref f, H1, I1, rfl, h f c' H1 eN T1 f0 f1 c1 (fun x y a e1 e2 => I.ok.inj x y a (clo_cm hfr e1) (clo_cm hfr e2)) fun y a e => ?_⟩
  rcases cloFrom_mem (PySem.mem_of_lookup e) with z | ⟨z, _⟩
  · cases z
  · exact z
end
/-! ### the body -/
section
variable {P : Program} {w : World} {K : PySem.W.Frag} {mg : Str → Option Value} {base : Heap} {N ps fr : List Str} {F : NF} {f : Addr} {e : Expr} {k : Nat} {sp : List V → List V → Hp → VK → Prop}
theorem lam_run (S : NScope N ps fr F.scope) (hb : ∀ (pm ctv : Value) (us : List Value), us.length = ps.length → bindArgs (PySem.W.kla_fn "<lambda>" F.qual F.params e F.scope F.cl pm (.ref F.c) ctv) ⟨us, []⟩ = pure (ps.zip us))
    (hbody : ∀ (A : Around) (outer : List Env) (s : Shared) (H : Hp) (vs ws : List V) (Q : VK), Room k (A.deeper (envF F f s.heap.objs.size)) → sp ws vs H Q → ∃ t, PE (ncx CX0 P w K mg base N F f A outer s H E0) e t ∧ t (startF N vs (ws.map some)) H Q)
    {A : Around} {outer : List Env} {s : Shared} {H : Hp} {us : List Value} {vs ws : List V} {Q : VK} {E : XK} (hr : Room (k + 1) A) (e0 : Env0 P w K mg base A outer s H) (hf : H f = some (LamO f F e)) (hc : H F.c = some (CodeO F.c F.qual))
    (C : CellsAt F.cl fr (ws.map some) s.heap H) (r : Vals vs us) (hl : vs.length = ps.length) (q : sp ws vs H Q) : codeAny (model P w) A (.call (.ref f) ⟨us, []⟩) (CR CX0 outer P w H s Q E) s := by
  have lim : s.heap.NoLimit := e0.mod.nolimit.keeps fun b o z => (e0.bs b o z).1
  obtain ⟨od, sl, pm, ctv, ho⟩ := lamO_at e0.hok hf
  refine PySem.W.kla_callFunE hr.depth ho rfl S.co S.gen rfl (codeO_at e0.hok hc) ?_
  rw [hb pm ctv us (r.length.symm.trans hl)]
  refine wpAny_pure (wpAny_newFunctionEnv S.nocell (fun ⟨n, _⟩ hy => S.par n (List.of_mem_zip hy).1) (fun h₁ hns hsb => ⟨lim.fresh _ hsb, ?_⟩) S.kind)
  show codeAny _ _ (.expr e (envF F f s.heap.objs.size)) _ _
  have kp : ∀ b o, s.heap.get? b = some o → h₁.get? b = some o := fun b o z => hsb.extBut b o (Nat.ne_of_lt (Heap.lt_size z)) (Heap.get?_push_of_some _ z)
  obtain ⟨t, ht, hq⟩ := hbody A outer s H vs ws Q (hr.deeper _) q
  have I : Inv (ncx CX0 P w K mg base N F f A outer s H E0) [] (startF N vs (ws.map some)) H { s with heap := h₁, toks := s.toks + (ps.zip us).length } := inv_startN S hr.hd e0 hl r C hns kp
  refine PySem.W.kla_codeExpr (wpAny_mono (ht.run [] _ _ H Q I hq) (fun v s' hz => ?_) fun e s' hz => ?_)
  · obtain ⟨w', H', J, rv, q'⟩ := hz
    exact ⟨w', H', J.os, J.bare, J.base, J.hok, rv, q'⟩
  · exact hz
/-- the addresses of the captured cells -/
def isCap (F : NF) (fr : List Str) (b : Addr) : Bool := fr.any fun y => decide (F.cl.lookup y = some b)
theorem isCap_iff {F : NF} {fr : List Str} {b : Addr} : isCap F fr b = true ↔ ∃ y ∈ fr, F.cl.lookup y = some b := by
  unfold isCap
  rw [List.any_eq_true]
  constructor
  · rintro ⟨y, hy, z⟩; exact ⟨y, hy, of_decide_eq_true z⟩
  · rintro ⟨y, hy, z⟩; exact ⟨y, hy, decide_eq_true z⟩
/-- the promise of a lambda whose captured cells are lent -/
def spLam (ps fr : List Str) (F : NF) (f : Addr) (e : Expr) (sp : List V → List V → Hp → VK → Prop) : Sp := fun vs H Q _ => vs.length = ps.length ∧ H f = some (LamO f F e) ∧ H F.c = some (CodeO F.c F.qual) ∧
  ∃ ws : List V, ws.length = fr.length ∧ (∀ (i : Nat) (y : Str), fr[i]? = some y → ∃ c v, F.cl.lookup y = some c ∧ ws[i]? = some v ∧ Lent H c v) ∧
    ∀ H0, Kx H H0 → sp ws vs H0 fun v H2 => ∀ H3, (Same H0 H2 → Same H H3) → Kx H2 H3 → Q v H3
theorem lam_fnR (S : NScope N ps fr F.scope) (hb : ∀ (pm ctv : Value) (us : List Value), us.length = ps.length → bindArgs (PySem.W.kla_fn "<lambda>" F.qual F.params e F.scope F.cl pm (.ref F.c) ctv) ⟨us, []⟩ = pure (ps.zip us))
    (inj : ∀ x y a, F.cl.lookup x = some a → F.cl.lookup y = some a → x = y) (dom : ∀ y a, F.cl.lookup y = some a → (y, NameKind.free) ∈ F.scope.names)
    (hbody : ∀ (A : Around) (outer : List Env) (s : Shared) (H : Hp) (vs ws : List V) (Q : VK), Room k (A.deeper (envF F f s.heap.objs.size)) → sp ws vs H Q → ∃ t, PE (ncx CX0 P w K mg base N F f A outer s H E0) e t ∧ t (startF N vs (ws.map some)) H Q) :
    FnR P w K mg base CX0 (k + 1) f (spLam ps fr F f e sp) := by
  intro A outer s H us vs Q E hr e0 r h
  obtain ⟨hl, hf, hc, ws, lw, hw, q⟩ := h
  -- every captured cell is lent
  have lent : ∀ b, isCap F fr b = true → ∃ o v, H b = some (CellO b o v) ∧ s.heap.get? b = some o ∧ ∃ u, o.data = .cell (some u) := fun b hb => by
    obtain ⟨y, hy, z⟩ := isCap_iff.mp hb
    obtain ⟨i, hi⟩ := List.mem_iff_getElem?.mp hy
    obtain ⟨c, v, e1, _, o, e2⟩ := hw i y hi
    rw [z] at e1
    cases e1
    obtain ⟨g, u, d, _⟩ := Lent.at e0.hok e2
    exact ⟨o, v, e2, g, u, d⟩
  have nf : isCap F fr f = false := by
    cases z : isCap F fr f with
    | false => rfl
    | true =>
      obtain ⟨o, v, _, g, u, d⟩ := lent f z
      obtain ⟨od, sl, pm, ctv, ho⟩ := lamO_at e0.hok hf
      rw [ho] at g
      cases g
      cases d
  have nc : isCap F fr F.c = false := by
    cases z : isCap F fr F.c with
    | false => rfl
    | true =>
      obtain ⟨o, v, _, g, u, d⟩ := lent F.c z
      obtain ⟨⟨oc, vs, t, h1, h2, _⟩, _⟩ := e0.hok F.c _ hc
      rw [h1] at g
      cases g
      rw [h2] at d
      cases d
  let H0 : Hp := fun b => if isCap F fr b = true then none else H b
  have in0 : ∀ {b}, isCap F fr b = true → H0 b = none := fun {b} z => if_pos z
  have out0 : ∀ {b}, isCap F fr b = false → H0 b = H b := fun {b} z => if_neg (by rw [z]; exact Bool.false_ne_true)
  have of0 : ∀ {b o}, H0 b = some o → isCap F fr b = false ∧ H b = some o := fun {b o} z => by
    cases y : isCap F fr b with
    | true => rw [in0 y] at z; cases z
    | false => rw [out0 y] at z; exact ⟨rfl, z⟩
  have none0 : ∀ {b}, H b = none → H0 b = none := fun {b} z => by
    cases y : isCap F fr b with
    | true => exact in0 y
    | false => rw [out0 y]; exact z
  have notext : ∀ {b o}, (∀ φ, o ≠ .ext φ) → H b = some o → isCap F fr b = false := fun {b o} n z => by
    cases y : isCap F fr b with
    | false => rfl
    | true =>
      obtain ⟨ob, v, e2, _⟩ := lent b y
      rw [e2] at z
      exact absurd (Option.some.inj z).symm (n _)
  have kx0 : Kx H H0 := fun b o n z => by rw [out0 (notext n z)]; exact z
  have hok0 : HOk P w H0 s.heap := fun b o z => by
    obtain ⟨y, z'⟩ := of0 z
    exact (e0.hok b o z').stay (fun _ _ _ g => g) (fun c g => kx0 c _ (fun φ a => by cases a) g) fun c xs g => kx0 c _ (fun φ a => by cases a) g
  have e1 : Env0 P w K mg base A outer s H0 := ⟨e0.frames, e0.mod, fun b o z => ⟨(e0.bs b o z).1, none0 (e0.bs b o z).2⟩, e0.bsz, e0.funs, fun b hb => none0 (e0.frf b hb), hok0, e0.bare⟩
  have dom' : ∀ y a, F.cl.lookup y = some a → y ∈ fr := fun y a z => S.free (y, .free) (dom y a z) rfl
  have C : CellsAt F.cl fr (ws.map some) s.heap H0 := by
    refine ⟨by rw [List.length_map]; exact lw, fun y c z => ?_, inj, fun i y hi => ?_⟩
    · have cap : isCap F fr c = true := isCap_iff.mpr ⟨y, dom' y c z, z⟩
      obtain ⟨o, v, _, g, u, d⟩ := lent c cap
      exact ⟨in0 cap, some u, o, g, d⟩
    · obtain ⟨c, v, e2, e3, o, e4⟩ := hw i y hi
      refine ⟨c, e2, fun v' z => ?_⟩
      rw [List.getElem?_map, e3] at z
      cases z
      obtain ⟨g, u, d, rv⟩ := Lent.at e0.hok e4
      exact ⟨u, rv, o, g, d⟩
  refine codeAny_mono (lam_run (E := E) S hb hbody hr e1 (by rw [out0 nf]; exact hf) (by rw [out0 nc]; exact hc) C r hl (q H0 kx0)) fun res s' z => ?_
  match res, z with
  | .error e, z => exact z
  | .ok .next, z => exact z
  | .ok .brk, z => exact z
  | .ok .cont, z => exact z
  | .ok (.ret u), ⟨v, H2, os, bare, un, hok2, rv, q2⟩ =>
    let H3 : Hp := fun b => if isCap F fr b = true then H b else H2 b
    have in3 : ∀ {b}, isCap F fr b = true → H3 b = H b := fun {b} z => if_pos z
    have out3 : ∀ {b}, isCap F fr b = false → H3 b = H2 b := fun {b} z => if_neg (by rw [z]; exact Bool.false_ne_true)
    have cap2 : ∀ {b}, isCap F fr b = true → H2 b = none := fun {b} z => by
      obtain ⟨o, _, _, g, _⟩ := lent b z
      exact un.free b o g (in0 z) (by simp)
    have out2 : ∀ {b o}, H2 b = some o → isCap F fr b = false := fun {b o} z => by
      cases y : isCap F fr b with
      | false => rfl
      | true => rw [cap2 y] at z; cases z
    have nfr : ∀ {b}, isCap F fr b = true → b ∉ frs outer := fun {b} z hb => by
      obtain ⟨o, _, e2, _⟩ := lent b z
      rw [e0.frf b hb] at e2
      cases e2
    have ncap : ∀ {b}, H b = none → isCap F fr b = false := fun {b} z => by
      cases y : isCap F fr b with
      | false => rfl
      | true =>
        obtain ⟨o, _, e2, _⟩ := lent b y
        rw [z] at e2
        cases e2
    have up : ∀ {b o}, H2 b = some o → H3 b = some o := fun {b o} z => by rw [out3 (out2 z)]; exact z
    refine ⟨v, H3, os, bare, ⟨fun b o g n nb _ => un.keep b o g (none0 n) nb (by simp), fun b o g n nb _ => un.slot b o g (none0 n) nb (by simp), fun b o g n _ => ?_, fun b o g _ => un.there b o g (by simp), fun b xs z => ?_, fun b o xs z => ?_, fun b ps z => ?_⟩, fun b o z => ?_, rv, q2 H3 (fun sm b o z => ?_) fun b o _ z => up z⟩
    · rw [out3 (ncap n)]; exact un.free b o g (none0 n) (by simp)
    · exact up (un.tups b xs (kx0 b _ (fun φ a => by cases a) z))
    · exact up (un.frzs b o xs (kx0 b _ (fun φ a => by cases a) z))
    · obtain ⟨more, y⟩ := un.tbls b ps (kx0 b _ (fun φ a => by cases a) z)
      exact ⟨more, up y⟩
    · cases y : isCap F fr b with
      | false =>
        rw [out3 y] at z
        exact (hok2 b o z).stay (fun _ _ _ g => g) (fun c g => up g) fun c xs g => up g
      | true =>
        obtain ⟨ob, vb, e2, g, ub, d⟩ := lent b y
        rw [in3 y, e2] at z
        cases z
        have g' := un.keep b ob g (in0 y) (nfr y) (by simp)
        obtain ⟨⟨_, u1, d1, r1⟩, _, st⟩ := e0.hok b _ e2
        exact ⟨⟨g', u1, d1, r1⟩, ⟨ob, g'⟩, st⟩
    · cases y : isCap F fr b with
      | true => rw [in3 y]; exact z
      | false => exact up (sm b o (by rw [out0 y]; exact z))
end
/-! ### calls -/
/-- f(e, ..), f a name that holds a lambda -/
def tAsk (P : Program) (w : World) (K : PySem.W.Frag) (mg : Str → Option Value) (base : Heap) (k i : Nat) (t : TA) : TE := fun σ H Q => ∃ f F b spL, σ[i]? = some (some (.ref f)) ∧ H f = some (LamO f F b) ∧ FnR P w K mg base CX0 k f spL ∧
  t σ H fun vs H1 => H1 f = some (LamO f F b) ∧ spL vs H1 Q E0
/-- x(e, ..), one of the arguments a lambda made here: its captured cells are lent to the call -/
def tLend (cl : List (Str × Addr)) (fr : List Str) (js : List Nat) (sp : Sp) (t : TA) : TE := fun σ H Q => t σ H fun vs H1 => ∀ Hl : Hp, Same H1 Hl → (∀ (i : Nat) (y : Str) (v : V), fr[i]? = some y → (js.map (slotAt σ))[i]? = some (some v) → ∃ a, cl.lookup y = some a ∧ Lent Hl a v) →
  sp vs Hl (fun v H2 => Same Hl H2 ∧ ∀ H3, Same H1 H3 → Kx H2 H3 → Q v H3) E0
section
variable {X : Cx} {k i : Nat} {x : Str} {p pos : Pos} {e : Expr} {es : List Expr} {t : TA} {sp : Sp} {ps : List Str}
theorem lamAt_of {pins : List (Addr × Obj)} {σ : L2.St} {H : Hp} {s : Shared} {f : Addr} {F : NF} {b : Expr} (I : Inv X pins σ H s) (z : H f = some (LamO f F b)) : PySem.W.FnAt f s.heap := by
  obtain ⟨od, sl, pm, ctv, ho⟩ := lamO_at I.hok z
  exact ⟨_, od, _, sl, ho⟩
theorem pe_ask (hr : Room k X.A) (hN : X.N[i]? = some x) (hv : Vis X.env.scope x) (ha : PA X (e :: es) t) (hdb : (x == ("__debug__" : Str)) = false := by decide) (hcd : (x == ("__classdict__" : Str)) = false := by decide)
    (he : starEach (e :: es) X.env = (false, eval e X.env) :: starEach es X.env := by rfl) (hpl : (backTo pos (starEach es X.env)).any (·.1) = false := by rfl) :
    PE X (.Call (.Name x p) (e :: es) [] pos) (tAsk X.prog X.w X.K X.mg X.base k i t) := by
  refine ⟨fun pins s σ H Q I h => ?_⟩
  obtain ⟨f, F, b, spL, hs, hf, R, ht⟩ := h
  refine wpAny_Call_Name_kw (thn ((pe_var (pos := p) hN hv hdb hcd).run pins s σ H (fun v H1 => v = .ref f ∧ H1 = H) I ⟨.ref f, hs, rfl, rfl⟩) fun u s1 ⟨v, H1, I1, r1, q1⟩ => ?_)
  obtain ⟨ev, eH⟩ := q1
  subst ev
  rw [eH] at I1
  obtain rfl : u = Value.ref f := r1
  refine PySem.W.callWith_F (first := []) (lamAt_of I1 hf) (thn (ha.run pos pins s1 σ H _ I1 ht) fun us s2 ⟨vs, H2, I2, r, h1, q⟩ => ⟨lamAt_of I2 h1, ?_⟩) he hpl
  exact wpAny_call (run_fnR R hr pass0 I2 r q)
/-- what is lent: the cells of the names fr -/
def lentAt (h : Heap) (H : Hp) (cl : List (Str × Addr)) (fr : List Str) (ws : List (Option V)) (b : Addr) (o : Obj) (v : V) : Prop :=
  h.get? b = some o ∧ H b = none ∧ (∃ u, o.data = .cell (some u) ∧ RelV v u) ∧ ∃ (i : Nat) (y : Str), fr[i]? = some y ∧ ws[i]? = some (some v) ∧ cl.lookup y = some b
open Classical in
noncomputable def lendH (h : Heap) (H : Hp) (cl : List (Str × Addr)) (fr : List Str) (ws : List (Option V)) : Hp := fun b =>
  if z : ∃ o v, lentAt h H cl fr ws b o v then some (CellO b z.choose z.choose_spec.choose) else H b
theorem run_lend {pins : List (Addr × Obj)} {σ : L2.St} {H : Hp} {s : Shared} {Q : VK} {f : Addr} {fd : FuncData} {us : List Value} {vs : List V} {cl : List (Str × Addr)} {fr : List Str} {js : List Nat} (F : FnG X.prog X.w X.K X.mg X.base CX0 k f fd ps sp) (hr : Room k X.A) (gd : X.A.guards = some [])
    (hb : Binds X.K fd ps []) (cp : Caps X cl fr js) (hfn : ∀ y ∈ fr, X.fn y = true) (nd : fr.Nodup) (I : Inv X pins σ H s) (r : Vals vs us)
    (h : ∀ Hl : Hp, Same H Hl → (∀ (i : Nat) (y : Str) (v : V), fr[i]? = some y → (js.map (slotAt σ))[i]? = some (some v) → ∃ a, cl.lookup y = some a ∧ Lent Hl a v) → sp vs Hl (fun v H2 => Same Hl H2 ∧ ∀ H3, Same H H3 → Kx H2 H3 → Q v H3) E0) :
    wpAny (model X.prog X.w) X.A (call (.ref f) us) (EP X pins σ Q) X.xe s := by
  have C := cells_of I cp
  have HL : ∃ Hl : Hp, (∀ b o, H b = some o → Hl b = some o) ∧ (∀ b, Hl b = H b ∨ ∃ o v, lentAt s.heap H cl fr (js.map (slotAt σ)) b o v ∧ Hl b = some (CellO b o v)) ∧
      (∀ (i : Nat) (y : Str) (v : V), fr[i]? = some y → (js.map (slotAt σ))[i]? = some (some v) → ∃ a, cl.lookup y = some a ∧ Lent Hl a v) := by
    refine ⟨lendH s.heap H cl fr (js.map (slotAt σ)), fun b o z => ?_, fun b => ?_, fun i y v e1 e2 => ?_⟩
    · unfold lendH
      rw [dif_neg]
      · exact z
      · rintro ⟨o', v, _, n, _⟩
        rw [z] at n
        cases n
    · unfold lendH
      by_cases z : ∃ o v, lentAt s.heap H cl fr (js.map (slotAt σ)) b o v
      · rw [dif_pos z]
        exact .inr ⟨_, _, z.choose_spec.choose_spec, rfl⟩
      · rw [dif_neg z]
        exact .inl rfl
    · obtain ⟨c, hc, hv⟩ := C.has i y e1
      obtain ⟨u, ru, o, go, du⟩ := hv v e2
      have z : ∃ o v, lentAt s.heap H cl fr (js.map (slotAt σ)) c o v := ⟨o, v, go, (C.all y c hc).1, ⟨u, du, ru⟩, i, y, e1, e2, hc⟩
      refine ⟨c, hc, z.choose, ?_⟩
      unfold lendH
      rw [dif_pos z]
      obtain ⟨_, _, _, i', y', e1', e2', hc'⟩ := z.choose_spec.choose_spec
      have ey := C.inj _ _ _ hc hc'
      rw [← ey] at e1'
      have ei : i = i' := nodup_ix nd e1 e1'
      rw [← ei, e2] at e2'
      rw [← Option.some.inj (Option.some.inj e2')]
  obtain ⟨Hl, sm, cs, ln⟩ := HL
  have cellNone : ∀ {b o v}, lentAt s.heap H cl fr (js.map (slotAt σ)) b o v → X.s_0.heap.objs.size ≤ b ∧ b ≠ X.env.locals := fun {b o v} z => by
    obtain ⟨_, _, _, i, y, e1, _, e3⟩ := z
    have ec := cp.sub y b e3
    exact ⟨I.ok.cab y b (hfn y (List.mem_of_getElem? e1)) ec, I.cne y b ec⟩
  have bsl : ∀ b, (∃ o, X.s_0.heap.get? b = some o) ∨ b = X.env.locals → H b = none → Hl b = none := fun b hb n => by
    rcases cs b with z | ⟨o, v, z, _⟩
    · rw [z]; exact n
    · obtain ⟨l1, l2⟩ := cellNone z
      rcases hb with ⟨ob, g⟩ | g
      · exact absurd (Nat.lt_of_lt_of_le (Heap.lt_size g) l1) (Nat.lt_irrefl _)
      · exact absurd g l2
  have e0 := I.env0
  have hokl : HOk X.prog X.w Hl s.heap := fun b o z => by
    rcases cs b with y | ⟨ob, v, y, y2⟩
    · rw [y] at z
      exact (I.hok b o z).stay (fun _ _ _ g => g) (fun c g => sm c _ g) fun c xs g => sm c _ g
    · rw [y2] at z
      cases z
      obtain ⟨g, _, ⟨u, d, ru⟩, _⟩ := y
      exact ⟨⟨g, u, d, ru⟩, ⟨ob, g⟩, fun h1 h2 ⟨a1, a2⟩ st => ⟨st _ a1, a2⟩⟩
  have e1 : Env0 X.prog X.w X.K X.mg X.base X.A X.stack s Hl := by
    refine ⟨e0.frames, e0.mod, fun b o z => ⟨(e0.bs b o z).1, bsl b (.inl ⟨o, (I.ok.bs b o z).1⟩) (e0.bs b o z).2⟩, e0.bsz, e0.funs, fun b hb => ?_, hokl, e0.bare⟩
    rcases List.mem_cons.mp (I.stkSub b hb) with z | z
    · exact bsl b (.inr z) (e0.frf b hb)
    · obtain ⟨_, o, ho, _⟩ := I.ok.funs.mem z
      exact bsl b (.inl ⟨o, ho⟩) (e0.frf b hb)
  have hq := h Hl sm ln
  have hl : us.length = ps.length := r.length.symm.trans (F.len _ _ _ _ hq)
  have hbs := hb s us I.kIn (by rw [List.append_nil]; exact hl)
  rw [List.append_nil] at hbs
  refine wpAny_call (codeAny_mono (F.run X.A X.stack s Hl ⟨us, []⟩ us vs _ E0 hr gd e1 hbs r hq) fun res s' z => ?_)
  match res, z with
  | .error e, z => exact z.elim
  | .ok .next, z => exact z.elim
  | .ok .brk, z => exact z.elim
  | .ok .cont, z => exact z.elim
  | .ok (.ret u), ⟨v, H2, os, bare, un, hok2, rv, same2, q2⟩ =>
    refine I.after ?_
    let H3 : Hp := fun b => if ((H b).isNone && (Hl b).isSome) = true then none else H2 b
    have some3 : ∀ {b o}, H b = some o → H3 b = H2 b := fun {b o} z => if_neg (by rw [z]; simp)
    have none3 : ∀ {b}, H b = none → Hl b = none → H3 b = H2 b := fun {b} z y => if_neg (by rw [z, y]; simp)
    have lent3 : ∀ {b o v}, H b = none → Hl b = some (CellO b o v) → H3 b = none := fun {b o v} z y => if_pos (by rw [z, y]; simp)
    have kx3 : Kx H2 H3 := fun b o n z => by
      cases hb : H b with
      | some ob => rw [some3 hb]; exact z
      | none =>
        cases hlb : Hl b with
        | none => rw [none3 hb hlb]; exact z
        | some ol =>
          rcases cs b with y | ⟨o', v', y, y2⟩
          · rw [y, hb] at hlb; cases hlb
          · rw [same2 b _ y2] at z
            cases z
            exact absurd rfl (n _)
    have same3 : Same H H3 := fun b o z => by rw [some3 z]; exact same2 b o (sm b o z)
    have cell2 : ∀ {b o v}, Hl b = some (CellO b o v) → s'.heap.get? b = some o := fun {b o v} z => (Lent.at hok2 (same2 _ _ z)).1
    refine ⟨v, H3, os, bare, ⟨fun b o g n nb _ => ?_, fun b o g n nb _ => ?_, fun b o g n _ => ?_, fun b o g _ => un.there b o g (by simp), fun b xs z => same3 b _ z, fun b o xs z => same3 b _ z, fun b qs z => ⟨#[], by rw [same3 b _ z]; simp⟩⟩, fun b o z => ?_, rv, q2 H3 same3 kx3⟩
    · rcases cs b with y | ⟨o', v', y, y2⟩
      · exact un.keep b o g (by rw [y]; exact n) nb (by simp)
      · have g2 := cell2 y2
        rw [y.1] at g
        cases g
        exact g2
    · rcases cs b with y | ⟨o', v', y, y2⟩
      · exact un.slot b o g (by rw [y]; exact n) nb (by simp)
      · have g2 := cell2 y2
        rw [y.1] at g
        cases g
        exact ⟨o.slots, g2⟩
    · rcases cs b with y | ⟨o', v', y, y2⟩
      · rw [none3 n (by rw [y]; exact n)]
        exact un.free b o g (by rw [y]; exact n) (by simp)
      · exact lent3 n y2
    · have z2 : H2 b = some o := by
        have z' : (if ((H b).isNone && (Hl b).isSome) = true then none else H2 b) = some o := z
        split at z'
        · cases z'
        · exact z'
      exact (hok2 b o z2).stay (fun _ _ _ g => g) (fun c g => kx3 c _ (fun φ a => by cases a) g) fun c xs g => kx3 c _ (fun φ a => by cases a) g
theorem pe_lendG {cl : List (Str × Addr)} {fr : List Str} {js : List Nat} (D : DfG X.prog X.w X.K X.mg X.base x k ps sp) (hr : Room k X.A) (gd : X.A.guards = some []) (hg : Gl X x) (cp : X.Ok → Caps X cl fr js) (hfn : ∀ y ∈ fr, X.fn y = true) (nd : fr.Nodup) (ha : PA X (e :: es) t)
    (hdb : (x == ("__debug__" : Str)) = false := by decide) (he : starEach (e :: es) X.env = (false, eval e X.env) :: starEach es X.env := by rfl) (hpl : (backTo pos (starEach es X.env)).any (·.1) = false := by rfl) :
    PE X (.Call (.Name x p) (e :: es) [] pos) (tLend cl fr js sp t) := by
  obtain ⟨f, fd, F, m, kp, b⟩ := D
  refine ⟨fun pins s σ H Q I h => ?_⟩
  refine wpAny_Call_Name_kw (ld_glob I hg m ?_ hdb)
  refine PySem.W.callWith_K (h₀ := X.base) I.ok.mod.kin kp (thn (ha.run pos pins s σ H _ I h) fun us s1 ⟨vs, H1, I1, r, q⟩ => ⟨I1.kIn, ?_⟩) he hpl
  exact run_lend F hr gd b (cp I1.ok) hfn nd I1 r q
end
end Cor

set_option Elab.async false
set_option linter.all false
set_option maxRecDepth 100000
set_option maxHeartbeats 1000000
/-! Dicts of words, as lists of pairs; trees in heaps without their cells. -/
namespace Cor
open PySem PySem.Spec PyProof.Rows L2
def kvW (kv : Int × Bool) : Key × V := (Sum.inl kv.1, V.bl kv.2)
/-- the words ws, by number -/
def lookW (ws : List (Int × Bool)) : Int → Option Bool := fun n => ws.lookup n
theorem val_kvW : ∀ (ws : List (Int × Bool)) (n : Int), valV (ws.map kvW) (Sum.inl n) = (lookW ws n).map V.bl
  | [], n => rfl
  | kv :: ws, n => by
    unfold lookW
    rw [List.map_cons, List.lookup_cons]
    by_cases e : n = kv.1
    · rw [valV_pos (by rw [e]; rfl), show (n == kv.1) = true from by rw [e]; exact beq_self_eq_true _]
      rfl
    · rw [valV_neg (fun z => e (Sum.inl.inj z).symm), show (n == kv.1) = false from by rw [beq_eq_false_iff_ne]; exact e]
      exact val_kvW ws n
theorem put_fresh {ws : List (Int × Bool)} {kv : Int × Bool} (h : kv.1 ∉ ws.map (·.1)) : putK (ws.map kvW) (Sum.inl kv.1) (V.bl kv.2) = (ws ++ [kv]).map kvW := by
  unfold putK
  rw [if_neg, List.map_append]
  · rfl
  · intro z
    obtain ⟨p, hp, e⟩ := List.any_eq_true.mp z
    obtain ⟨q, hq, rfl⟩ := List.mem_map.mp hp
    have e : (Sum.inl q.1 : Key) = Sum.inl kv.1 := of_decide_eq_true e
    exact h (List.mem_map.mpr ⟨q, hq, Sum.inl.inj e⟩)
theorem merge_fresh : ∀ (ws acc : List (Int × Bool)), ((acc ++ ws).map (·.1)).Nodup → mergeK (acc.map kvW) (ws.map kvW) = (acc ++ ws).map kvW
  | [], acc, _ => by rw [List.append_nil]; rfl
  | kv :: ws, acc, h => by
    have h' : (((acc ++ [kv]) ++ ws).map (·.1)).Nodup := by rw [List.append_assoc]; exact h
    have fr : kv.1 ∉ acc.map (·.1) := fun z => by
      rw [List.map_append, List.map_cons] at h
      exact (List.nodup_append.mp h).2.2 kv.1 z kv.1 List.mem_cons_self rfl
    have e : mergeK (acc.map kvW) ((kv :: ws).map kvW) = mergeK (putK (acc.map kvW) (Sum.inl kv.1) (V.bl kv.2)) (ws.map kvW) := rfl
    rw [e, put_fresh fr, merge_fresh ws _ h', List.append_assoc]
    rfl
/-- the dict of the words ws stands at d -/
def Wl (H : Hp) (d : Addr) (ws : List (Int × Bool)) : Prop := H d = some (.dK (ws.map kvW)) ∧ (ws.map (·.1)).Nodup ∧ ws.length ≤ 60
theorem Wl.kx {H H' : Hp} {d : Addr} {ws : List (Int × Bool)} (k : Kx H H') (h : Wl H d ws) : Wl H' d ws := ⟨k _ _ (fun _ z => by cases z) h.1, h.2⟩
theorem Wl.same {H H' : Hp} {d : Addr} {ws : List (Int × Bool)} (k : Same H H') (h : Wl H d ws) : Wl H' d ws := ⟨k _ _ h.1, h.2⟩
theorem Tv.kx {H H' : Hp} (k : Kx H H') : ∀ {t : Tr} {v : V}, Tv H v t → Tv H' v t
  | .lf _, _, h => by rw [h.lf_of]; exact .lf _
  | .nd n ty to, _, h => by
    obtain ⟨a, y, o, rfl, h1, h2, h3⟩ := h.nd_of
    exact .nd (k _ _ (fun _ z => by cases z) h1) (Tv.kx k h2) (Tv.kx k h3)
theorem lookW_append {ws : List (Int × Bool)} {kv : Int × Bool} (h : kv.1 ∉ ws.map (·.1)) (m : Int) : lookW (ws ++ [kv]) m = if m = kv.1 then some kv.2 else lookW ws m := by
  unfold lookW
  rw [List.lookup_append]
  by_cases e : m = kv.1
  · rw [if_pos e]
    have n : ws.lookup m = none := by
      rw [List.lookup_eq_none_iff]
      intro p hp
      rw [bne_iff_ne, e]
      exact fun z => h (List.mem_map.mpr ⟨p, hp, z.symm⟩)
    rw [n, e, List.lookup_cons, beq_self_eq_true]
    rfl
  · rw [if_neg e]
    have : [kv].lookup m = none := by
      rw [List.lookup_cons, show (m == kv.1) = false from by rw [beq_eq_false_iff_ne]; exact e]
      rfl
    rw [this]
    simp
theorem lookW_some : ∀ {ws : List (Int × Bool)} {n : Int}, n ∈ ws.map (·.1) → (lookW ws n).isSome = true
  | kv :: ws, n, h => by
    unfold lookW
    rw [List.lookup_cons]
    by_cases e : n = kv.1
    · rw [show (n == kv.1) = true from by rw [e]; exact beq_self_eq_true _]
      rfl
    · rw [show (n == kv.1) = false from by rw [beq_eq_false_iff_ne]; exact e]
      rcases List.mem_cons.mp h with z | z
      · exact absurd z e
      · exact lookW_some z
/-- the tuples of these pairs stand at ps -/
def Prw (H : Hp) (ps : List Addr) (ws : List (Int × Bool)) : Prop := Paired (fun q kv => H q = some (.tup [.int kv.1, .bl kv.2])) ps ws
theorem Prw.same {H H' : Hp} {ps : List Addr} {ws : List (Int × Bool)} (k : Same H H') (h : Prw H ps ws) : Prw H' ps ws := Paired.mapP h fun _ _ e => k _ _ e
theorem Prw.snoc {H : Hp} {q : Addr} {kv : Int × Bool} (hq : H q = some (.tup [.int kv.1, .bl kv.2])) : ∀ {ps : List Addr} {ws : List (Int × Bool)}, Prw H ps ws → Prw H (ps ++ [q]) (ws ++ [kv])
  | [], [], _ => .cons hq .nil
  | _ :: _, _ :: _, .cons a r => .cons a (Prw.snoc hq r)
theorem Prw.kv {K : PySem.W.Frag} {H : Hp} : ∀ {ps : List Addr} {ws : List (Int × Bool)}, Prw H ps ws → Paired (fun p kv => SqT K H p [kV kv.1, kv.2]) ps (ws.map kvW)
  | [], [], _ => .nil
  | _ :: _, _ :: _, .cons a r => .cons (SqT.of a) (Prw.kv r)
theorem Prw.len {H : Hp} : ∀ {ps : List Addr} {ws : List (Int × Bool)}, Prw H ps ws → ps.length = ws.length
  | [], [], _ => rfl
  | _ :: _, _ :: _, .cons _ r => congrArg Nat.succ (Prw.len r)
theorem Prw.of {H : Hp} : ∀ {ps : List Addr} {ws : List (Int × Bool)}, Paired (fun (t : Addr) (q : Key × V) => H t = some (.tup [kV q.1, q.2])) ps (ws.map kvW) → Prw H ps ws
  | [], [], _ => .nil
  | _ :: _, _ :: _, .cons a r => .cons a (Prw.of r)
  | [], _ :: _, h => by cases h
  | _ :: _, [], h => by cases h
/-! ### showing trees -/
theorem Tr.d_noDict : ∀ t : Tr, t.d.hasDict = false := fun t => PyData.hasDict_of_canLay _ t.d_lay
/-- numbers and values that have texts: all below 2 ^ 1900 -/
def Sml : Tr → Prop
  | .lf (.i n) => n.natAbs.log2 < 1920
  | .lf (.b _) => True
  | .nd n y o => n.natAbs.log2 < 1920 ∧ Sml y ∧ Sml o
theorem log_lt {n : Int} {B : Nat} (h : n.natAbs < 2 ^ B) (hB : B ≤ 1920) (h0 : 0 < B) : n.natAbs.log2 < 1920 := by
  by_cases e : n.natAbs = 0
  · rw [e]; decide
  · have := (Nat.log2_lt e).mpr h
    omega
theorem Cn.sml {k : Bool} {B : Nat} (h0 : 0 < B) (hB : B ≤ 1920) : ∀ {S : List Int} {t : Tr}, (∀ n ∈ S, n.natAbs < 2 ^ 1900) → Cn (Lg k B) S t → Sml t
  | S, .lf (.i n), _, h => log_lt h.lf_of.2 hB h0
  | S, .lf (.b n), _, h => True.intro
  | [], .nd _ _ _, _, h => h.elim
  | s :: S, .nd n y o, hs, h => by
    have hs' : ∀ n ∈ S, n.natAbs < 2 ^ 1900 := fun n hn => hs n (List.mem_cons_of_mem _ hn)
    rcases h with ⟨h1, _, h3, h4⟩ | h
    · exact ⟨log_lt (by rw [h1]; exact hs s List.mem_cons_self) (by decide) (by decide), Cn.sml h0 hB hs' h3, Cn.sml h0 hB hs' h4⟩
    · exact Cn.sml (S := S) h0 hB hs' h
theorem Sml.show : ∀ {t : Tr}, Sml t → t.d.showable = true
  | .lf (.i n), h => decide_eq_true h
  | .lf (.b n), _ => rfl
  | .nd n y o, h => by
    show (PyData.showable (.int n) && (y.d.showable && (o.d.showable && true))) = true
    rw [Sml.show h.2.1, Sml.show h.2.2, show PyData.showable (.int n) = true from decide_eq_true h.1]
    rfl
theorem len_sgn (x : Str) : x.length = (sgn x).length := by unfold sgn; rw [Array.length_toList]; rfl
theorem text_len {n : Int} (h : n.natAbs.log2 < 1920) : (sgn (Str.ofString (toString n))).length ≤ 1921 := by
  rw [← len_sgn, PySem.ofString_length]
  exact PySem.int_text_length_le (by decide) h
theorem Sml.len : ∀ {t : Tr}, Sml t → (sgn t.d.shown).length + 2000 ≤ 4000 * 2 ^ t.dep
  | .lf (.i n), h => by
    have : (sgn (Str.ofString (toString n))).length ≤ 1921 := text_len h
    have e : (Tr.lf (.i n)).d.shown = Str.ofString (toString n) := PyData.shown_int n
    rw [e]
    show _ ≤ 4000 * 1
    omega
  | .lf (.b true), _ => by decide +kernel
  | .lf (.b false), _ => by decide +kernel
  | .nd n y o, h => by
    have h1 := text_len h.1
    have h2 := Sml.len h.2.1
    have h3 := Sml.len h.2.2
    rw [shown_nd]
    show _ ≤ 4000 * 2 ^ (max y.dep o.dep + 1)
    simp only [List.length_cons, List.length_append, List.length_nil]
    have p1 : 2 ^ y.dep ≤ 2 ^ (max y.dep o.dep) := Nat.pow_le_pow_right (by decide) (by omega)
    have p2 : 2 ^ o.dep ≤ 2 ^ (max y.dep o.dep) := Nat.pow_le_pow_right (by decide) (by omega)
    rw [Nat.pow_succ]
    omega
theorem Sml.fits {t : Tr} (h : Sml t) (d : t.dep ≤ 12) : t.d.shown.length ≤ sizeLine := by
  have := Sml.len h
  rw [len_sgn]
  have p : 2 ^ t.dep ≤ 2 ^ 12 := Nat.pow_le_pow_right (by decide) d
  have e : sizeLine = 16777216 := rfl
  rw [e]
  omega
/-- what repr(v) asks, v a tree -/
theorem rd_repr {K : PySem.W.Frag} {H : Hp} {v : V} {t : Tr} {Q : VK} (hv : Tv H v t) (sm : Sml t) (d : t.dep ≤ 12) (q : Q (.str t.d.shown) H) : rReprD K [v] H Q :=
  ⟨v, t.d, rfl, hv.dp, sm.show, t.d_noDict, sm.fits d, by rw [t.d_depth]; omega, q⟩
theorem shown_dec (t t' : Tr) : decide (V.str t.d.shown = V.str t'.d.shown) = decide (t = t') := by
  rw [Bool.eq_iff_iff, decide_eq_true_iff, decide_eq_true_iff]
  constructor
  · intro e; exact shown_inj (V.str.inj e)
  · rintro rfl; rfl
end Cor

set_option Elab.async false
set_option linter.all false
set_option maxRecDepth 100000
set_option maxHeartbeats 1000000
namespace Law
open PySem PySem.Spec PyProof.Rows L2 Cor
/-! ### what was read is what is shown -/
theorem val_snoc (l : List Nat) (d : Nat) : NumText.digitsVal (l ++ [d]) = NumText.digitsVal l * 10 + (d - 48) := by
  unfold NumText.digitsVal
  rw [List.foldl_append]
  rfl
theorem numL_back : ∀ (n : Nat) (l : List Nat), l.length = n → (∀ d ∈ l, 48 ≤ d ∧ d ≤ 57) → l ≠ [] → (l.length = 1 ∨ l.head? ≠ some 48) → TL.numL (NumText.digitsVal l) = l
  | 0, l, hl, _, hne, _ => absurd (List.length_eq_zero_iff.mp hl) hne
  | n + 1, l, hl, hd, hne, hh => by
    obtain ⟨l', d, rfl⟩ : ∃ l' d, l = l' ++ [d] := ⟨l.dropLast, l.getLast hne, (List.dropLast_concat_getLast hne).symm⟩
    have hdd := hd d (by simp)
    rw [val_snoc]
    cases l' with
    | nil =>
      rw [show NumText.digitsVal [] * 10 + (d - 48) = d - 48 from by show 0 * 10 + (d - 48) = _; omega, TL.numL_lt (by omega), show 48 + (d - 48) = d by omega]
      rfl
    | cons c r =>
      have hc : c ≠ 48 := by
        rcases hh with h | h
        · simp at h
        · intro z
          exact h (by rw [z]; rfl)
      have hd' : ∀ x ∈ c :: r, 48 ≤ x ∧ x ≤ 57 := fun x hx => hd x (List.mem_append_left _ hx)
      have hp := dig_pos hd' hc
      have ih := numL_back n (c :: r) (by rw [List.length_append, List.length_singleton] at hl; omega) hd' (by simp) (.inr (fun z => hc (Option.some.inj z)))
      rw [TL.numL_step (by omega), show (NumText.digitsVal (c :: r) * 10 + (d - 48)) / 10 = NumText.digitsVal (c :: r) by omega, ih, show 48 + (NumText.digitsVal (c :: r) * 10 + (d - 48)) % 10 = d by omega]
theorem val_lt : ∀ (l : List Nat), (∀ d ∈ l, 48 ≤ d ∧ d ≤ 57) → NumText.digitsVal l < 10 ^ l.length := by
  intro l
  induction hn : l.length generalizing l with
  | zero =>
    intro _
    rw [List.length_eq_zero_iff.mp hn]
    decide
  | succ n ih =>
    intro hd
    have hne : l ≠ [] := fun z => by rw [z] at hn; cases hn
    obtain ⟨l', d, rfl⟩ : ∃ l' d, l = l' ++ [d] := ⟨l.dropLast, l.getLast hne, (List.dropLast_concat_getLast hne).symm⟩
    rw [List.length_append, List.length_singleton] at hn
    have := ih l' (by omega) fun x hx => hd x (List.mem_append_left _ hx)
    have hdd := hd d (by simp)
    rw [val_snoc, Nat.pow_succ]
    omega
theorem fig_back {y : Str} (h : figB y = true) : Str.ofString (toString ((NumText.digitsVal y.cps.toList : Nat) : Int)) = y ∧ NumText.digitsVal y.cps.toList < 10 ^ 20 := by
  unfold figB at h
  rw [Bool.and_eq_true, Bool.and_eq_true, Bool.and_eq_true, decide_eq_true_eq, decide_eq_true_eq] at h
  obtain ⟨⟨h1, h2⟩, h3, h4⟩ := h
  have hd : ∀ d ∈ y.cps.toList, 48 ≤ d ∧ d ≤ 57 := fun d hd => isIn_dig (List.all_eq_true.mp h3 d hd)
  have lc := len_cps y
  refine ⟨?_, Nat.lt_of_lt_of_le (val_lt _ hd) (Nat.pow_le_pow_right (by decide) (by omega))⟩
  rw [SX.num_S]
  refine TL.ext_tl ?_
  show TL.numL _ = _
  refine numL_back _ _ rfl hd (fun z => by rw [z, List.length_nil] at lc; omega) ?_
  rw [Bool.or_eq_true, decide_eq_true_eq, Bool.not_eq_true', decide_eq_false_iff_not] at h4
  rcases h4 with h4 | h4
  · left
    rw [h4]
    decide +kernel
  · exact .inr h4
theorem neg_text (m : Nat) (h : m ≠ 0) : Str.ofString (toString (-((m : Nat) : Int))) = "-" ++ Str.ofString (toString ((m : Nat) : Int)) := by
  obtain ⟨k, rfl⟩ : ∃ k, m = k + 1 := ⟨m - 1, by omega⟩
  have e : toString (-(((k + 1 : Nat)) : Int)) = "-" ++ toString (((k + 1 : Nat)) : Int) := rfl
  rw [e]
  refine TL.ext_tl ?_
  rw [TL.tl_append]
  show (Str.ofString _).cps.toList = (Str.ofString _).cps.toList ++ (Str.ofString _).cps.toList
  rw [Str.ofString_eq_toList, Str.ofString_eq_toList, Str.ofString_eq_toList]
  simp
theorem num_back {b : Str} {n : Int} (h : numT b = some n) : Str.ofString (toString n) = b ∧ n.natAbs < 10 ^ 20 := by
  unfold numT at h
  split at h
  · rename_i hm
    cases hf : figT (tailS b) with
    | none => rw [hf] at h; cases h
    | some m =>
      rw [hf] at h
      have h : (if m = 0 then none else some (-m)) = some n := h
      split at h
      · cases h
      · rename_i hm0
        cases h
        unfold figT at hf
        split at hf
        · rename_i hb
          cases hf
          obtain ⟨e1, e2⟩ := fig_back hb
          refine ⟨?_, by rw [Int.natAbs_neg]; exact e2⟩
          rw [neg_text _ (fun z => hm0 (by rw [z]; rfl)), e1]
          refine TL.ext_tl ?_
          rw [TL.tl_append]
          show ("-" : Str).cps.toList ++ b.cps.toList.drop 1 = b.cps.toList
          rw [show ("-" : Str).cps.toList = [45] from by decide +kernel]
          cases hb2 : b.cps.toList with
          | nil => rw [hb2] at hm; cases hm
          | cons c r =>
            rw [hb2] at hm
            cases hm
            rfl
        · cases hf
  · unfold figT at h
    split at h
    · rename_i hb
      cases h
      exact fig_back hb
    · cases h
theorem path_back {a : Str} {p : List Str} (h : pathT a = some p) : pathText p = a ∧ p.length ≤ a.length := by
  unfold pathT at h
  split at h
  · rename_i e
    cases h
    exact ⟨by rw [e]; decide +kernel, Nat.zero_le _⟩
  · unfold namesOf at h
    have cnt := split_count one_slash a
    split at h
    · cases h
    · rename_i first names hs
      split at h
      · rename_i hc
        cases h
        obtain ⟨h1, h2, _⟩ := hc
        rw [hs, List.length_cons] at cnt
        refine ⟨?_, by omega⟩
        have := split_back one_slash a
        rw [hs, h1] at this
        rw [← this]
        unfold pathText
        cases p with
        | nil => exact absurd rfl h2
        | cons n ns =>
          rw [TL.join_eq, TL.join_eq]
          show _ = ("" : Str) ++ "/" ++ Str.join "/" (n :: ns)
          rw [show (("" : Str) ++ "/") = "/" from by decide +kernel]
      · cases h
theorem row_back {row : Str} {r : Rw} (h : rowT row = some r) : rowText r = row := by
  obtain ⟨a, b, hs, hp, hn, _⟩ := row_parts h
  have e := split_back one_blank row
  rw [hs] at e
  rw [← e, TL.join_eq]
  show _ = a ++ " " ++ (b ++ " " ++ ("at" ++ " " ++ r.2.2))
  unfold rowText
  rw [(path_back hp).1, (num_back hn).1, Str.empty_append]
  have e2 : (" at " : Str) = " " ++ ("at" ++ " ") := by decide +kernel
  rw [e2]
  simp only [Str.append_assoc]
theorem read_text : ∀ (rows : List Str) (found rs : List Rw), readRows rows found = .inr rs → rs.map rowText = found.map rowText ++ rows
  | [], found, rs, e => by cases e; rw [List.append_nil]
  | row :: rest, found, rs, e => by
    have e : (match rowT row with | some r => if fits found r then readRows rest (found ++ [r]) else .inl found.length | none => .inl found.length) = Sum.inr rs := e
    cases hr : rowT row with
    | none => rw [hr] at e; cases e
    | some r =>
      rw [hr] at e
      have e : (if fits found r then readRows rest (found ++ [r]) else .inl found.length) = Sum.inr rs := e
      by_cases hf : fits found r
      · rw [if_pos hf] at e
        rw [read_text rest _ rs e, List.map_append, List.append_assoc, List.map_singleton, row_back hr]
        rfl
      · rw [if_neg hf] at e
        cases e
theorem text_back {x : Str} {rs : List Rw} (h : readRows (Txt.split x "\n") [] = .inr rs) : storeText rs = x := by
  unfold storeText
  rw [read_text _ _ _ h]
  exact split_back one_line x
theorem name_len {n : Str} (h : nameB n = true) : n.length ≤ 6 := by
  unfold nameB at h
  rw [Bool.and_eq_true, Bool.and_eq_true, decide_eq_true_eq, decide_eq_true_eq] at h
  exact h.1.2
theorem read_shown {x : Str} {rs : List Rw} (hl : x.length ≤ 10000) (h60 : (Txt.split x "\n").length ≤ 60) (h : readRows (Txt.split x "\n") [] = .inr rs) : Shown rs := by
  have hlen := read_len _ _ _ h
  rw [List.length_nil, Nat.zero_add] at hlen
  refine ⟨⟨fun z => ?_, by omega⟩, fun r hr => ?_⟩
  · rw [z, List.length_nil] at hlen
    exact split_ne one_line x (List.length_eq_zero_iff.mp hlen.symm)
  · rcases read_mem _ _ _ h r hr with h1 | ⟨row, h1, h2⟩
    · cases h1
    · obtain ⟨a, b, hs, hp, hn, hh⟩ := row_parts h2
      have ha : a ∈ Txt.split row " " := by rw [hs]; simp
      have l1 := (split_mem one_line h1).1
      have l2 := (split_mem one_blank ha).1
      have l3 := (path_back hp).2
      refine ⟨⟨by omega, fun n hn => name_len (path_names hp n hn).1⟩, name_len hh, log_lt (B := 100) (Nat.lt_trans (num_back hn).2 (by decide)) (by decide) (by decide)⟩
end Law

set_option Elab.async false
set_option linter.all false
set_option maxRecDepth 100000
set_option maxHeartbeats 1000000
namespace Law
open PySem PySem.Spec PyProof.Rows L2 Cor
def spTk : Sp := fun vs H Q _ => ∃ (p : Addr) (m : Int), vs = [.ref p, .int m] ∧ Box H p ∧ 0 < m ∧ m < 2 ^ 90 ∧ ∀ (r : Int) (H' : Hp), SameBut p H H' → Box H' p → 0 ≤ r → r < m → Q (.int r) H'
theorem spTk_of {vs : List V} {H : Hp} {Q : VK} {E : XK} (h : spTk vs H Q E) : spTake vs H Q E := by
  obtain ⟨p, m, rfl, hb, m0, m1, q⟩ := h
  exact ⟨p, m, rfl, hb, m0, m1, fun b s c r s0 s1 r0 r1 => q r _ SameBut.upd ⟨b, s, c, upd_same, s0, s1⟩ r0 r1⟩
theorem _root_.Cor.Box.ne {H : Hp} {p q : Addr} (h : Box H p) (n : H q = none) : q ≠ p := fun z => by
  obtain ⟨b, s, c, e, _⟩ := h
  rw [z, e] at n
  cases n
theorem _root_.Cor.Box.kp {H H' : Hp} {p : Addr} (h : Box H p) (s : SameBut p H H') : Kp H H' := let ⟨_, _, _, e, _⟩ := h; s.kp e
theorem _root_.Cor.Box.same {H H' : Hp} {p : Addr} (h : Box H p) (s : Same H H') : Box H' p := let ⟨b, s', c, e, x⟩ := h; ⟨b, s', c, s _ _ e, x⟩
end Law

set_option Elab.async false
set_option linter.all false
set_option maxRecDepth 100000
set_option maxHeartbeats 1000000
namespace Law
open PySem PySem.Spec PyProof.Rows L2 Cor
/-! ### drawn names -/
abbrev sMixed : Stmt := topS 26
theorem scMixed : FnScope ["_law_box_here", "_law_items", "_law_left", "_law_found", "_law_turn"] ["_law_box_here", "_law_items"] (defScope sMixed) := ⟨rfl, rfl, rfl, by decide +kernel, rfl, by decide +kernel, by decide +kernel⟩
/-- the items in some order -/
def spMixed : Sp := fun vs H Q _ => ∃ (p a : Addr) (xs : List Str), vs = [.ref p, .ref a] ∧ Box H p ∧ H a = some (.lst (xs.map V.str)) ∧ a ≠ p ∧ xs.length ≤ 60 ∧
  ∀ (L : Addr) (ys : List Str) (H' : Hp), SameBut p H H' → Box H' p → H L = none → H' L = some (.lst (ys.map V.str)) → ys.Perm xs → Q (.ref L) H'
theorem erase_map {α β : Type} (f : α → β) : ∀ (l : List α) (i : Nat), (l.map f).eraseIdx i = (l.eraseIdx i).map f
  | [], _ => rfl
  | _ :: _, 0 => rfl
  | x :: l, i + 1 => congrArg (f x :: ·) (erase_map f l i)
theorem erase_perm {α : Type} : ∀ (l : List α) (i : Nat) (h : i < l.length), (l[i] :: l.eraseIdx i).Perm l
  | [], _, h => absurd h (Nat.not_lt_zero _)
  | _ :: _, 0, _ => List.Perm.refl _
  | x :: l, i + 1, h => ((List.Perm.swap x (l[i]'(Nat.lt_of_succ_lt_succ h)) (l.eraseIdx i))).trans (List.Perm.cons x (erase_perm l i (Nat.lt_of_succ_lt_succ h)))
section
variable {P : Program} {w : World} {K : PySem.W.Frag} {mg : Str → Option Value} {base : Heap}
theorem ok_mixed {f : Addr} {fd : FuncData} (F : Fun K "_law_mixed" "_law_mixed" sMixed f fd) (T : GloP K mg) (dt : Df P w K mg base "_law_take" 1 ["_law_box_here", "_law_many"] spTk) : FnOk P w K mg base CX0 2 f fd ["_law_box_here", "_law_items"] spMixed := by
  refine F.ok scMixed (k := 1) (fun vs H Q E h => ?_) (fun cdv A outer s H vs Q E hr h => ?_)
  · obtain ⟨p, a, xs, rfl, _⟩ := h
    rfl
  · obtain ⟨p, a, xs, rfl, hb, ha, nap, hl, q⟩ := h
    refine ⟨_, (pss_cons (ps_par (i := 2) (j := 3) (by rfl) scMixed.nd rfl rfl (by decide) rfl rfl (pa_cons (pe_callTy call_list_of (by rfl) T.list (by decide +kernel) (pa_cons (pv 1) pa_nil)) (pa_cons (pe_lst pa_nil) pa_nil)) (by rfl))
      (pss_cons (ps_for PassesOwn.never rfl (pi_range1 (by rfl) T.range (pa_cons (pe_callB call_len_seq (by rfl) T.len PySem.boot_len (pa_cons (pv 2) pa_nil)) pa_nil)) (pg_name (i := 4) scMixed.nd rfl (Or.inl rfl)) (pss_one (ps_expr (pe_bm PySem.F.plainAttrs_list PySem.F.slot_list_append PySem.F.type_list_append mt_append (pv 3) (pa_cons (pe_bm PySem.F.plainAttrs_list PySem.F.slot_list_pop PySem.F.type_list_pop mt_popAt (pv 2) (pa_cons (pe_df (E := E0) dt hr (by rfl) (pa_cons (pv 0) (pa_cons (pe_callB call_len_seq (by rfl) T.len PySem.boot_len (pa_cons (pv 2) pa_nil)) pa_nil))) pa_nil)) pa_nil)))))
      (pss_one (ps_ret (pv 3))))), ?_⟩
    refine ⟨_, rfl, a, _, rfl, .inl (SqL.of ha), fun L1 n1 => ?_⟩
    have s1 := same_upd (o := .lst (xs.map V.str)) n1
    have e1 : (upd H L1 (.lst (xs.map V.str))) L1 = some (.lst (xs.map V.str)) := upd_same
    generalize (upd H L1 (.lst (xs.map V.str))) = H1 at s1 e1 ⊢
    refine ⟨(by show 0 ≤ sizeLine; decide), fun L2 n2 => ?_⟩
    have s2 := same_upd (o := .lst []) n2
    have e2 : (upd H1 L2 (.lst [])) L2 = some (.lst []) := upd_same
    generalize (upd H1 L2 (.lst [])) = H2 at s2 e2 ⊢
    have n12 : L1 ≠ L2 := fun z => by rw [← z, e1] at n2; cases n2
    have n20 : H L2 = none := by
      cases hz : H L2 with
      | none => rfl
      | some o => rw [s1 _ _ hz] at n2; cases n2
    have s02 : Same H H2 := fun b o z => s2 b o (s1 b o z)
    have b2 := hb.same s02
    have np1 : L1 ≠ p := hb.ne n1
    have np2 : L2 ≠ p := (hb.same s1).ne n2
    have e12 := s2 _ _ e1
    refine ⟨_, _, rfl, _, rfl, L1, _, rfl, .inl (SqL.of e12), _, rfl, ?_, ?_, ?_⟩
    · rw [List.length_map]
      omega
    · rw [List.length_map]
      omega
    refine for_range (lo := 0) (fun i σ H' => ∃ (rest done : List Str) (t4 : Option V), σ = [some (.ref p), some (.ref a), some (.ref L1), some (.ref L2), t4] ∧ SameBut p H H' ∧ Box H' p ∧ H' L1 = some (.lst (rest.map V.str)) ∧ H' L2 = some (.lst (done.map V.str)) ∧ (done ++ rest).Perm xs ∧ done.length = i) ⟨xs, [], _, rfl, Cor.Same.but s02, b2, e12, e2, List.Perm.refl _, rfl⟩ ?_ ?_
    rotate_left
    · rintro σ H' ⟨rest, done, _, rfl, sb, b', eL1, eL2, perm, hd⟩
      have hl2 := perm.length_eq
      rw [List.length_append] at hl2
      have hr0 : rest = [] := by
        rw [List.length_map] at hd
        refine List.length_eq_zero_iff.mp ?_
        have : (((xs.length : Nat) : Int) - 0).toNat = xs.length := by omega
        omega
      rw [hr0, List.append_nil] at perm
      exact ⟨_, rfl, q L2 done H' sb b' n20 eL2 perm⟩
    rintro i σ H3 hi ⟨rest, done, t4, rfl, sb, b3, eL1, eL2, perm, hd⟩
    have hl2 := perm.length_eq
    rw [List.length_append] at hl2
    rw [List.length_map] at hi
    have rpos : 0 < rest.length := by omega
    refine ⟨_, rfl, .inl ⟨rfl, _, SqL.of eL2⟩, _, rfl, .inl ⟨rfl, _, SqL.of eL1⟩, _, rfl, _, rfl, L1, _, rfl, .inl (SqL.of eL1), ?_⟩
    rw [List.length_map]
    refine ⟨p, _, rfl, b3, by omega, by omega, fun r H4 s4 b4 r0 r1 => ?_⟩
    have eL14 := s4 _ _ np1 eL1
    have eL24 := s4 _ _ np2 eL2
    have hk : r.toNat < rest.length := by omega
    have hix : ixN (rest.map V.str).length r = some r.toNat := by
      unfold ixN
      rw [List.length_map, if_pos r0, if_pos (by omega)]
    refine ⟨L1, rest.map V.str, r, r.toNat, .str rest[r.toNat], rfl, rfl, eL14, by omega, by omega, (ixN_seq hix).1, by rw [List.getElem?_map, List.getElem?_eq_getElem hk]; rfl, ?_⟩
    have eL25 : (upd H4 L1 (.lst ((rest.map V.str).eraseIdx r.toNat))) L2 = some (.lst (done.map V.str)) := (upd_ne n12.symm).trans eL24
    refine ⟨L2, _, _, rfl, rfl, eL25, ?_, ?_⟩
    · rw [List.length_map]
      exact Nat.lt_of_le_of_lt (show done.length ≤ 60 by omega) (by decide)
    refine ⟨rest.eraseIdx r.toNat, done ++ [rest[r.toNat]], _, rfl, fun b o nb z => ?_, ?_, ?_, ?_, ?_, by rw [List.length_append, hd, List.length_singleton]⟩
    · have nb1 : b ≠ L1 := ne_of_none z n1
      have nb2 : b ≠ L2 := ne_of_none z n20
      rw [upd_ne nb2, upd_ne nb1]
      exact s4 b o nb (sb b o nb z)
    · obtain ⟨x0, x1, x2, ex, rx⟩ := b4
      exact ⟨x0, x1, x2, by rw [upd_ne np2.symm, upd_ne np1.symm]; exact ex, rx⟩
    · rw [upd_ne n12, upd_same, erase_map]
    · rw [upd_same, List.map_append]
      rfl
    · refine List.Perm.trans ?_ perm
      rw [List.append_assoc]
      refine List.Perm.append_left done ?_
      show (rest[r.toNat] :: rest.eraseIdx r.toNat).Perm rest
      exact erase_perm rest r.toNat hk
end
end Law

set_option Elab.async false
set_option linter.all false
set_option maxRecDepth 100000
set_option maxHeartbeats 1000000
namespace Law
open PySem PySem.Spec PyProof.Rows L2 Cor
abbrev sNamesL : Stmt := topS 27
theorem scNamesL : FnScope ["_law_box_here", "_law_many", "_law_letters", "_law_first", "_law_form", "_law_k", "_law_stem"] ["_law_box_here", "_law_many"] (defScope sNamesL) := ⟨rfl, rfl, rfl, by decide +kernel, rfl, by decide +kernel, by decide +kernel⟩
/-- four names -/
def spNamesL : Sp := fun vs H Q _ => ∃ p : Addr, vs = [.ref p, .int 4] ∧ Box H p ∧ ∀ (N : Addr) (ns : List Str) (H' : Hp), SameBut p H H' → Box H' p → H N = none → H' N = some (.lst (ns.map V.str)) → ns.length = 4 → (∀ n ∈ ns, nameB n = true) → Q (.ref N) H'
def rIxL0 : V → V → Hp → VK → Prop := fun x y H Q => ∃ p xs i v, x = .ref p ∧ y = .int i ∧ H p = some (.lst xs) ∧ atI xs i = some v ∧ Q v H
theorem ix_lst {X : Cx} : IxR X rIxL0 := by
  intro pos sl pins s σ H x y ov iv Q I rx ry h hs
  obtain ⟨p, xs, i, v, h1, h2, h3, h4, h5⟩ := h
  exact ix_list pos sl pins s σ H x y ov iv Q I rx ry ⟨p, xs, i, v, h1, h2, SqL.of h3, h4, h5⟩ hs
/-- [e(k) for k in range(4)], e(k) a text that is drawn from nothing -/
theorem lc_four {g : TG} {te : TE} {vs : List Nat} {σ : L2.St} {H1 : Hp} {D : Addr} {Qd : Hp → Prop} {e : Nat → Str} (nD : H1 D = none)
    (hs : ∀ (k : Nat) (H : Hp) (R : VK), k < 4 → (∀ H', Same H H' → R (.str (e k)) H') → g (.int (0 + k)) (wipe σ vs) H fun σ2 H2 => wipe σ2 vs = wipe σ vs ∧ te σ2 H2 R)
    (hd : ∀ H, Same H1 H → H D = some (.lst (([e 0, e 1, e 2, e 3]).map V.str)) → Qd H) :
    ∃ W : Nat → Nat → Hp → Prop, (∃ m, W 0 m (upd H1 D (.lst []))) ∧ ∀ i m H, W i m H →
      ((Itr 0 (Int.toNat 4)).stop i H ∧ Qd H) ∨ ((Itr 0 (Int.toNat 4)).go i H ∧ ∃ Nx : Hp → Prop, (∀ H', Nx H' → ∃ m', m' < m ∧ W (i + 1) m' H') ∧ ∀ x H', (Itr 0 (Int.toNat 4)).yld i H x H' → g x (wipe σ vs) H' fun σ2 H2 => wipe σ2 vs = wipe σ vs ∧ tYes σ2 H2 fun b H3 =>
        if b = true then te σ2 H3 fun y H4 => ∃ acc, H4 D = some (.lst acc) ∧ acc.length < sizeLine ∧ Nx (upd H4 D (.lst (acc ++ [y]))) else Nx H3) := by
  refine lc_range (lo := 0) (n := 4) (fun i H => i ≤ 4 ∧ Same H1 H ∧ H D = some (.lst ((([e 0, e 1, e 2, e 3]).take i).map V.str))) ⟨by decide, same_upd nD, upd_same⟩ ?_ ?_
  · rintro i H hi ⟨h4, s1, e1⟩
    refine hs i H _ hi fun H' s2 => ⟨_, s2 _ _ e1, ?_, by omega, fun b o z => ?_, ?_⟩
    · rw [List.length_map, List.length_take]
      exact Nat.lt_of_le_of_lt (Nat.min_le_left _ _) (Nat.lt_of_lt_of_le hi (by decide))
    · rw [upd_ne (ne_of_none z nD)]
      exact s2 b o (s1 b o z)
    · rw [upd_same]
      match i, hi with
      | 0, _ => rfl
      | 1, _ => rfl
      | 2, _ => rfl
      | 3, _ => rfl
  · rintro H ⟨_, s1, e1⟩
    exact hd H s1 e1
theorem atI_strs {ys : List Str} {i : Nat} (h : i < ys.length) : atI (ys.map V.str) (i : Int) = some (.str ys[i]) := by
  unfold atI ixN
  rw [List.length_map, if_pos (by omega), if_pos (by omega)]
  show (ys.map V.str)[((i : Nat) : Int).toNat]? = _
  rw [Int.toNat_natCast, List.getElem?_map, List.getElem?_eq_getElem h]
  rfl
theorem cutV_to (xs : List V) (k : Nat) : cutV xs none (some (k : Int)) = xs.take k := by
  unfold cutV
  rw [HT.sIx_none, HT.sIx_nat, List.drop_zero, Nat.sub_zero, ← List.take_take, List.take_length]
def words8 : List Str := ["offset", "outlet", "input", "ago", "beach", "apart", "relift", "fend"]
theorem words8_eq : Txt.split "offset outlet input ago beach apart relift fend" " " = words8 := by decide +kernel
theorem words8_ok : ∀ n ∈ words8, nameB n = true := by decide +kernel
def tab6 (k : Nat) : Int := [1, 0, 2, 0, 4, 3].getD k 0
def stems : List Str := ["", "", "goo", "puts", "letsa"]
/-- one letter -/
def letAt (i : Nat) : Str := ⟨#[97 + i]⟩
theorem let_at {i : Nat} (h : i < 26) : atI letS.cps.toList (i : Int) = some (97 + i) := by
  have : ∀ i : Fin 26, atI letS.cps.toList ((i : Nat) : Int) = some (97 + (i : Nat)) := by decide +kernel
  exact this ⟨i, h⟩
def e0 (k : Nat) : Str := cutS "qxzjvk" none (some ((0 + (k : Int)) + 1))
def e2 (fi k : Nat) : Str := letAt ((fi + 7 * k) % 26) ++ cutS "qxzjv" none (some (tab6 k))
def e3 (st : Str) (fi k : Nat) : Str := st ++ letAt ((fi + 7 * k) % 26)
theorem e0_ok : ∀ n ∈ [e0 0, e0 1, e0 2, e0 3], nameB n = true := by decide +kernel
theorem e2_ok {fi : Nat} (h : fi < 26) : ∀ n ∈ [e2 fi 0, e2 fi 1, e2 fi 2, e2 fi 3], nameB n = true := by
  have : ∀ i : Fin 26, ∀ n ∈ [e2 i 0, e2 i 1, e2 i 2, e2 i 3], nameB n = true := by decide +kernel
  exact this ⟨fi, h⟩
theorem e3_ok {fi : Nat} (h : fi < 26) : ∀ st ∈ stems, ∀ n ∈ [e3 st fi 0, e3 st fi 1, e3 st fi 2, e3 st fi 3], nameB n = true := by
  have : ∀ i : Fin 26, ∀ st ∈ stems, ∀ n ∈ [e3 st i 0, e3 st i 1, e3 st i 2, e3 st i 3], nameB n = true := by decide +kernel
  exact this ⟨fi, h⟩
section
variable {P : Program} {w : World} {K : PySem.W.Frag} {mg : Str → Option Value} {base : Heap}
theorem ok_namesL {f : Addr} {fd : FuncData} (F : Fun K "_law_names" "_law_names" sNamesL f fd) (T : GloP K mg) (dt : Df P w K mg base "_law_take" 1 ["_law_box_here", "_law_many"] spTk) (dm : Df P w K mg base "_law_mixed" 2 ["_law_box_here", "_law_items"] spMixed) : FnOk P w K mg base CX0 3 f fd ["_law_box_here", "_law_many"] spNamesL := by
  refine F.ok scNamesL (k := 2) (fun vs H Q E h => ?_) (fun cdv A outer s H vs Q E hr h => ?_)
  · obtain ⟨p, rfl, _⟩ := h
    rfl
  · obtain ⟨p, rfl, hb, q⟩ := h
    refine ⟨_, (pss_cut (ps_asg (pe_tup (pa_cons pe_str (pa_cons (pe_df (E := E0) dt (hr.mono (by omega)) (by rfl) (pa_cons (pv 0) (pa_cons pe_int pa_nil))) (pa_cons (pe_df (E := E0) dt (hr.mono (by omega)) (by rfl) (pa_cons (pv 0) (pa_cons pe_int pa_nil))) pa_nil)))) (pg_tup rfl (pgs_cons (pg_name (i := 2) scNamesL.nd rfl (Or.inr rfl)) (pgs_cons (pg_name (i := 3) scNamesL.nd rfl (Or.inr rfl)) (pgs_cons (pg_name (i := 4) scNamesL.nd rfl (Or.inl rfl)) pgs_nil)))))
      (pss_cons (ps_if (pt_cmpR op_eq (pv 4) pe_int (nomark _)) (pss_one (ps_ret (pe_df (E := E0) dm hr (by rfl) (pa_cons (pv 0) (pa_cons (pe_lc (own := [("_law_k", 5)]) (g := gName 5) (by rfl) scNamesL.nd (pi_range1 (by rfl) T.range (pa_cons (pv 1) pa_nil)) (blkOk_by (own := [("_law_k", 5)]) (N := ["_law_box_here", "_law_many", "_law_letters", "_law_first", "_law_form", "_law_k", "_law_stem"]) (sc := defScope sNamesL) (by decide +kernel)) (fun _ _ _ _ _ => (pg_name (i := 5) scNamesL.nd rfl (Or.inl rfl))) (fun _ _ _ _ _ => pts_nil) (fun _ _ _ _ _ => (pe_slice sl_str pe_str po_none (po_some (pe_op op_add (pv 5) pe_int))))) pa_nil))))) pss_nil)
      (pss_cons (ps_if (pt_cmpR op_eq (pv 4) pe_int (nomark _)) (pss_one (ps_ret (pe_slice sl_list (pe_df (E := E0) dm hr (by rfl) (pa_cons (pv 0) (pa_cons (pe_split pe_str pe_str) pa_nil))) po_none (po_some (pv 1))))) pss_nil)
      (pss_cons (ps_if (pt_cmpR op_eq (pv 4) pe_int (nomark _)) (pss_one (ps_ret (pe_df (E := E0) dm hr (by rfl) (pa_cons (pv 0) (pa_cons (pe_lc (own := [("_law_k", 5)]) (g := gName 5) (by rfl) scNamesL.nd (pi_range1 (by rfl) T.range (pa_cons (pv 1) pa_nil)) (blkOk_by (own := [("_law_k", 5)]) (N := ["_law_box_here", "_law_many", "_law_letters", "_law_first", "_law_form", "_law_k", "_law_stem"]) (sc := defScope sNamesL) (by decide +kernel)) (fun _ _ _ _ _ => (pg_name (i := 5) scNamesL.nd rfl (Or.inl rfl))) (fun _ _ _ _ _ => pts_nil) (fun _ _ _ _ _ => (pe_op op_add_str (pe_ix ix_str (pv 2) (pe_op op_mod (pe_op op_add (pv 3) (pe_op op_mul pe_int (pv 5))) pe_int) (fun _ _ => rfl)) (pe_slice sl_str pe_str po_none (po_some (pe_ix ix_lst (pe_lst (pa_cons pe_int (pa_cons pe_int (pa_cons pe_int (pa_cons pe_int (pa_cons pe_int (pa_cons pe_int pa_nil))))))) (pv 5) (fun _ _ => rfl))))))) pa_nil))))) pss_nil)
      (pss_cons (ps_set (i := 6) scNamesL.nd rfl (Or.inr rfl) (pe_ix ix_list (pe_lst (pa_cons pe_str (pa_cons pe_str (pa_cons pe_str (pa_cons pe_str (pa_cons pe_str pa_nil)))))) (pe_df (E := E0) dt (hr.mono (by omega)) (by rfl) (pa_cons (pv 0) (pa_cons pe_int pa_nil))) (fun _ _ => rfl)))
      (pss_one (ps_ret (pe_df (E := E0) dm hr (by rfl) (pa_cons (pv 0) (pa_cons (pe_lc (own := [("_law_k", 5)]) (g := gName 5) (by rfl) scNamesL.nd (pi_range1 (by rfl) T.range (pa_cons (pv 1) pa_nil)) (blkOk_by (own := [("_law_k", 5)]) (N := ["_law_box_here", "_law_many", "_law_letters", "_law_first", "_law_form", "_law_k", "_law_stem"]) (sc := defScope sNamesL) (by decide +kernel)) (fun _ _ _ _ _ => (pg_name (i := 5) scNamesL.nd rfl (Or.inl rfl))) (fun _ _ _ _ _ => pts_nil) (fun _ _ _ _ _ => (pe_op op_add_str (pv 6) (pe_ix ix_str (pv 2) (pe_op op_mod (pe_op op_add (pv 3) (pe_op op_mul pe_int (pv 5))) pe_int) (fun _ _ => rfl))))) pa_nil)))))))))), ?_⟩
    refine ⟨fun σ' H' => ∃ (fi fo : Nat), fi < 26 ∧ fo < 6 ∧ σ' = [some (.ref p), some (.int 4), some (.str letS), some (.int (fi : Nat)), some (.int (fo : Nat)), none, none] ∧ SameBut p H H' ∧ Box H' p, ?_, ?_⟩
    · refine ⟨_, rfl, p, 26, rfl, hb, by decide, by decide, fun r1 H1 s1 b1 r10 r11 => ?_⟩
      refine ⟨_, rfl, p, 6, rfl, b1, by decide, by decide, fun r2 H2 s2 b2 r20 r21 => ?_⟩
      refine ⟨(by show 3 ≤ sizeLine; decide), fun t nt => ?_⟩
      have s3 := same_upd (o := .tup [.str letS, .int r1, .int r2]) nt
      refine ⟨t, [.str letS, .int r1, .int r2], rfl, SqT.of upd_same, rfl, _, _, rfl, _, _, rfl, _, _, rfl, rfl, ?_⟩
      refine ⟨r1.toNat, r2.toNat, by omega, by omega, ?_, fun b o nb z => s3 b o (s2 b o nb (s1 b o nb z)), b2.same s3⟩
      rw [show ((r1.toNat : Nat) : Int) = r1 by omega, show ((r2.toNat : Nat) : Int) = r2 by omega]
      rfl
    rintro σ' H1 ⟨fi, fo, hfi, hfo, rfl, sb, b1⟩
    have fresh : ∀ {L : Addr} {H2 : Hp}, Same H1 H2 → H2 L = none → H L = none := fun {L H2} s2 n => by
      cases hz : H L with
      | none => rfl
      | some o =>
        by_cases hq : L = p
        · obtain ⟨_, _, _, e, _⟩ := b1.same s2
          rw [hq, e] at n
          cases n
        · rw [s2 _ _ (sb _ _ hq hz)] at n
          cases n
    have fin : ∀ (xs : List Str) (D : Addr) (H2 : Hp), Same H1 H2 → H1 D = none → H2 D = some (.lst (xs.map V.str)) → xs.length = 4 → (∀ x ∈ xs, nameB x = true) → spMixed [.ref p, .ref D] H2 Q E0 := fun xs D H2 s2 nD eD hl hx => by
      refine ⟨p, D, xs, rfl, b1.same s2, eD, b1.ne nD, by omega, fun L ys H3 s3 b3 nL eL perm => ?_⟩
      exact q L ys H3 (fun b o nb z => s3 b o nb (s2 b o (sb b o nb z))) b3 (fresh s2 nL) eL (by rw [perm.length_eq]; exact hl) fun n hn => hx n (perm.mem_iff.mp hn)
    refine ⟨_, rfl, rfl, _, rfl, ?_⟩
    refine ite2 (fun hb0 => ?_) (fun hb0 => ?_)
    · refine ⟨_, rfl, _, rfl, 4, rfl, by decide, by decide, fun D nD => lc_four (e := e0) nD (fun k H' R hk hR => ⟨rfl, _, rfl, _, _, rfl, rfl, _, rfl, "qxzjvk", rfl, by decide +kernel, hR H' fun _ _ z => z⟩) fun H2 s2 eD => ?_⟩
      exact fin _ D H2 s2 nD eD rfl e0_ok
    refine ⟨_, rfl, rfl, _, rfl, ?_⟩
    refine ite2 (fun hb1 => ?_) (fun hb1 => ?_)
    · refine ⟨_, rfl, ⟨_, rfl⟩, "offset outlet input ago beach apart relift fend", " ", rfl, rfl, by decide +kernel, by decide +kernel, fun S nS => ?_⟩
      rw [words8_eq]
      have s2 := same_upd (o := .lst (words8.map V.str)) nS
      refine ⟨p, S, words8, rfl, b1.same s2, upd_same, b1.ne nS, by decide, fun L ys H3 s3 b3 nL eL perm => ?_⟩
      refine ⟨_, rfl, _, rfl, L, _, rfl, SqL.of eL, fun N nN => ?_⟩
      rw [show (some (4 : Int)) = some ((4 : Nat) : Int) from rfl, cutV_to, ← List.map_take]
      have s4 := same_upd (o := .lst ((ys.take 4).map V.str)) nN
      have ylen : ys.length = 8 := perm.length_eq
      refine q N (ys.take 4) _ (fun b o nb z => s4 b o (s3 b o nb (s2 b o (sb b o nb z)))) (b3.same s4) ?_ upd_same (by rw [List.length_take]; omega) fun n hn => words8_ok n (perm.mem_iff.mp (List.mem_of_mem_take hn))
      cases hz : H N with
      | none => rfl
      | some o =>
        by_cases hq : N = p
        · obtain ⟨_, _, _, e, _⟩ := b3
          rw [hq, e] at nN
          cases nN
        · rw [s3 _ _ hq (s2 _ _ (sb _ _ hq hz))] at nN
          cases nN
    refine ⟨_, rfl, rfl, _, rfl, ?_⟩
    refine ite2 (fun hb2 => ?_) (fun hb2 => ?_)
    · refine ⟨_, rfl, _, rfl, 4, rfl, by decide, by decide, fun D nD => lc_four (e := e2 fi) nD (fun k H' R hk hR => ⟨rfl, _, rfl, _, rfl, _, rfl, _, _, rfl, rfl, .inl ⟨by decide, by decide⟩, _, _, rfl, rfl, _, _, rfl, rfl, (by show (0 : Int) < 26; decide), letS, _, 97 + (fi + 7 * k) % 26, rfl, rfl, by decide +kernel, ?_, (by show 6 ≤ sizeLine; decide), fun l nl => ?_⟩) fun H2 s2 eD => ?_⟩
      · rw [show ((fi : Int) + 7 * (0 + (k : Int))) % 26 = (((fi + 7 * k) % 26 : Nat) : Int) by omega]
        exact let_at (Nat.mod_lt _ (by decide))
      · have s3 := same_upd (o := .lst [.int 1, .int 0, .int 2, .int 0, .int 4, .int 3]) nl
        refine ⟨_, rfl, l, _, _, .int (tab6 k), rfl, rfl, upd_same, ?_, _, rfl, "qxzjv", rfl, by decide +kernel, _, _, rfl, rfl, ?_, hR _ s3⟩
        · have : ∀ k : Fin 4, atI [V.int 1, .int 0, .int 2, .int 0, .int 4, .int 3] (0 + ((k : Nat) : Int)) = some (.int (tab6 k)) := by decide +kernel
          exact this ⟨k, hk⟩
        · have h1 : (cutS "qxzjv" none (some (tab6 k))).length ≤ 5 := by
            have : ∀ k : Fin 4, (cutS "qxzjv" none (some (tab6 k))).length ≤ 5 := by decide +kernel
            exact this ⟨k, hk⟩
          have h2 : Str.length (⟨#[97 + (fi + 7 * k) % 26]⟩ : Str) = 1 := rfl
          rw [h2]
          exact Nat.le_trans (show 1 + (cutS "qxzjv" none (some (tab6 k))).length ≤ 6 by omega) (by decide)
      · exact fin _ D H2 s2 nD eD rfl (e2_ok hfi)
    refine ⟨(by show 5 ≤ sizeLine; decide), fun l nl => ?_⟩
    have s2 := same_upd (o := .lst (stems.map V.str)) nl
    refine ⟨_, rfl, p, 5, rfl, b1.same s2, by decide, by decide, fun r H3 s3 b3 r0 r1 => ?_⟩
    have hr5 : r.toNat < stems.length := by
      show r.toNat < 5
      omega
    refine ⟨l, stems.map V.str, r, .str stems[r.toNat], rfl, rfl, SqL.of (s3 _ _ (b1.ne nl) upd_same), ?_, ?_⟩
    · have := atI_strs hr5
      rw [show ((r.toNat : Nat) : Int) = r by omega] at this
      exact this
    have hst : stems[r.toNat] ∈ stems := List.getElem_mem hr5
    generalize stems[r.toNat] = st at hst
    refine ⟨_, rfl, _, rfl, 4, rfl, by decide, by decide, fun D nD => lc_four (e := e3 st fi) nD (fun k H' R hk hR => ⟨rfl, _, rfl, _, rfl, _, rfl, _, rfl, _, _, rfl, rfl, .inl ⟨by decide, by decide⟩, _, _, rfl, rfl, _, _, rfl, rfl, (by show (0 : Int) < 26; decide), letS, _, 97 + (fi + 7 * k) % 26, rfl, rfl, by decide +kernel, ?_, _, _, rfl, rfl, ?_, hR _ fun _ _ z => z⟩) fun H4 s4 eD => ?_⟩
    · rw [show ((fi : Int) + 7 * (0 + (k : Int))) % 26 = (((fi + 7 * k) % 26 : Nat) : Int) by omega]
      exact let_at (Nat.mod_lt _ (by decide))
    · have h1 : st.length ≤ 5 := by
        have : ∀ st ∈ stems, st.length ≤ 5 := by decide +kernel
        exact this st hst
      have h2 : Str.length (⟨#[97 + (fi + 7 * k) % 26]⟩ : Str) = 1 := rfl
      rw [h2]
      exact Nat.le_trans (show st.length + 1 ≤ 6 by omega) (by decide)
    · refine ⟨p, D, _, rfl, b3.same s4, eD, b3.ne nD, by show 4 ≤ 60; decide, fun L ys H5 s5 b5 nL eL perm => ?_⟩
      refine q L ys H5 (fun b o nb z => s5 b o nb (s4 b o (s3 b o nb (s2 b o (sb b o nb z))))) b5 ?_ eL (by rw [perm.length_eq]; rfl) fun n hn => e3_ok hfi st hst n (perm.mem_iff.mp hn)
      cases hz : H L with
      | none => rfl
      | some o =>
        by_cases hq : L = p
        · obtain ⟨_, _, _, e, _⟩ := b3.same s4
          rw [hq, e] at nL
          cases nL
        · rw [s4 _ _ (s3 _ _ hq (s2 _ _ (sb _ _ hq hz)))] at nL
          cases nL
end
end Law

set_option Elab.async false
set_option linter.all false
set_option maxRecDepth 100000
set_option maxHeartbeats 1000000
namespace Law
open PySem PySem.Spec PyProof.Rows L2 Cor
/-! ### sorted(paths) -/
section
variable {X : Cx} {pins : List (Addr × Obj)} {σ : L2.St} {H : Hp} {s : Shared}
theorem paths_each (I : Inv X pins σ H s) {vs : List V} {qs : List (List Str)} (h : PathsAt H vs qs) : ∀ {us : List Value}, Vals vs us →
    PySem.W.EachIs (fun v q => ∃ t, v = Value.ref t ∧ PathAt H (.ref t) q) us qs ∧ PySem.W.EachIs (fun v q => ∃ as, Reads s.heap v (pathD q) as) us qs := by
  induction h with
  | nil =>
    intro us r
    cases r
    exact ⟨.nil, .nil⟩
  | cons a _ ih =>
    intro us r
    cases r with
    | @cons _ u _ _ r rr =>
      obtain ⟨e1, e2⟩ := ih rr
      obtain ⟨t, rfl, h1⟩ := a
      refine ⟨.cons ?_ e1, .cons (Dp.reads I _ _ _ (Dp.tup (SqT.of h1) (dp_strs _)) r) e2⟩
      cases r
      exact ⟨t, rfl, t, rfl, h1⟩
theorem each_paths {out : List Value} {qs : List (List Str)} (h : PySem.W.EachIs (fun v q => ∃ t, v = Value.ref t ∧ PathAt H (.ref t) q) out qs) : ∃ ys, Vals ys out ∧ PathsAt H ys qs := by
  induction h with
  | nil => exact ⟨[], .nil, .nil⟩
  | cons a _ ih =>
    obtain ⟨ys, h1, h2⟩ := ih
    obtain ⟨t, rfl, ht⟩ := a
    exact ⟨.ref t :: ys, .cons rfl h1, .cons ht h2⟩
theorem le_path : PySem.W.dataLe false pathD = pathLe := by
  rw [PySem.W.dataLe_eq]
  funext a b
  show (!PySem.W.dataLt (pathD b) (pathD a)) = pathLe a b
  rw [lt_path, Bool.not_not]
def rSortPaths (K : PySem.W.Frag) : List V → Hp → VK → Prop := fun vs H Q => ∃ (a : Addr) (us : List V) (qs : List (List Str)), vs = [.ref a] ∧ SqL K H a us ∧ PathsAt H us qs ∧ qs.head? = some [] ∧
  ∀ ys p, PathsAt H ys (qs.mergeSort pathLe) → H p = none → Q (.ref p) (upd H p (.lst ys))
theorem cr_sortPaths (hu : X.A.units + 64 < cLine) : CallR X (.builtin "sorted") (rSortPaths X.K) := by
  intro pins s σ H vs us Q I r h
  obtain ⟨a, xs, qs, rfl, hs, hP, h0, q⟩ := h
  obtain ⟨its, rv, hl, hz⟩ := I.list hs
  obtain ⟨u, rfl, ru⟩ := vals1 r
  obtain rfl : u = Value.ref a := ru
  obtain ⟨e1, e2⟩ := paths_each I hP rv
  have hal : PySem.W.AllAlike (qs.map pathD) := PySem.W.AllAlike.of alike_path
  have er' : PySem.W.EachIs (fun v q => ∃ as, Reads (PySem.W.sortingHeap (PySem.W.copyHeap s.heap its) (s.heap.objs.size + 1) its) v (pathD q) as) its qs := e2.mono fun _ _ ⟨as, r⟩ => ⟨as, PyProof.Rows.Reads.keeps (fun _ _ => PySem.W.sorting_copy_old) r⟩
  have hlq : its.length ≤ sizeLine := by rw [e1.length, ← hP.len]; exact hz
  refine PySem.W.sorted_vals hl.isList (PySem.W.SortsAt.rooted (s := { s with heap := PySem.W.sortingHeap (PySem.W.copyHeap s.heap its) (s.heap.objs.size + 1) its }) (PySem.W.each_map (R := fun v d => ∃ as, Reads (PySem.W.sortingHeap (PySem.W.copyHeap s.heap its) (s.heap.objs.size + 1) its) v d as) pathD er') hal (fun d hd => ?_) ?_ (fun d hd => ?_)) hlq ?_
  · obtain ⟨q, _, rfl⟩ := List.mem_map.mp hd
    exact ⟨_, rfl⟩
  · rw [List.head?_map, h0]
    rfl
  · obtain ⟨q, _, rfl⟩ := List.mem_map.mp hd
    have : (pathD q).depth = 1 := by
      show PyData.depthAll (strsD q) + 1 = 1
      rw [depth_strs]
    show X.A.units + 2 + _ < cLine
    omega
  · have eo := PySem.W.sortVals_data (R := fun v q => ∃ t, v = Value.ref t ∧ PathAt H (.ref t) q) false e1 er' hal
    have hlen : (PySem.W.sortVals (PySem.W.dataKind (PySem.W.sortingHeap (PySem.W.copyHeap s.heap its) (s.heap.objs.size + 1) its) (qs.map pathD)) false its its).length = its.length := PySem.W.sortVals_length false rfl
    rw [le_path] at eo
    generalize PySem.W.sortVals (PySem.W.dataKind (PySem.W.sortingHeap (PySem.W.copyHeap s.heap its) (s.heap.objs.size + 1) its) (qs.map pathD)) false its its = out at eo hlen ⊢
    obtain ⟨ys, v1, p1⟩ := each_paths eo
    obtain ⟨ep, he'⟩ := PyProof.Rows.sortedAll_at s.heap its out.toArray
    have hlen2 : ys.length ≤ sizeLine := by rw [v1.length, hlen]; exact hlq
    exact ⟨.ref _, upd H (s.heap.objs.size + 1) (.lst ys), I.laid (t' := s.toks) (fun _ _ => PyProof.Rows.sortedAll_old) (Nat.le_succ _) ⟨hlen2, out, ep, v1, he'⟩, rfl, q ys _ p1 (I.hok.fresh (Nat.le_succ _))⟩
end
/-! ### sorted paths are a beginning -/
theorem le_nil (q : List Str) : pathLe [] q = true := by cases q <;> rfl
theorem drop_ahead : ∀ q : List Str, q ≠ [] → pathLe q q.dropLast = false
  | [], h => absurd rfl h
  | [x], _ => rfl
  | x :: y :: t, _ => by
    show (if x = x then pathLe (y :: t) (y :: t).dropLast else leS x x) = false
    rw [if_pos rfl]
    exact drop_ahead (y :: t) (by simp)
theorem sorted_good {qs : List (List Str)} {rs : List Rw} (nd : qs.Nodup) (h0 : [] ∈ qs) (hc : ∀ q ∈ qs, q.dropLast ∈ qs) (e : rs.map (·.1) = qs.mergeSort pathLe) : Good rs := by
  have hs := List.pairwise_mergeSort (le := pathLe) (fun a b c => pathLe_trans a b c) (fun a b => by
    rcases pathLe_total a b with h | h <;> rw [h] <;> simp) qs
  have hp := List.mergeSort_perm qs pathLe
  rw [← e] at hs hp
  have nd2 : (rs.map (·.1)).Nodup := hp.nodup_iff.mpr nd
  have hmem : ∀ q ∈ qs, ∃ (j : Nat) (hj : j < rs.length), rs[j].1 = q := fun q hq => by
    obtain ⟨r, hr, rfl⟩ := List.mem_map.mp (hp.mem_iff.mpr hq)
    obtain ⟨j, hj, rfl⟩ := List.mem_iff_getElem.mp hr
    exact ⟨j, hj, rfl⟩
  rw [List.pairwise_map, List.pairwise_iff_getElem] at hs
  have nd3 := nd2
  unfold List.Nodup at nd3
  rw [List.pairwise_map, List.pairwise_iff_getElem] at nd3
  have key : ∀ (i j : Nat) (hi : i < rs.length) (hj : j < rs.length), i < j → Ahead rs[i].1 rs[j].1 := fun i j hi hj hij => by
    unfold Ahead
    cases hq : pathLe rs[j].1 rs[i].1 with
    | false => rfl
    | true => exact absurd (pathLe_anti _ _ (hs i j hi hj hij) hq) (nd3 i j hi hj hij)
  have conv : ∀ (i j : Nat) (hi : i < rs.length) (hj : j < rs.length), Ahead rs[i].1 rs[j].1 → i < j := fun i j hi hj ha => by
    rcases Nat.lt_trichotomy i j with h | h | h
    · exact h
    · subst h
      rw [Ahead, pathLe_refl] at ha
      cases ha
    · have hb := (key j i hj hi h).le
      rw [Ahead] at ha
      rw [ha] at hb
      cases hb
  have first : ∀ (i : Nat) (hi : i < rs.length), rs[i].1 = [] → i = 0 := fun i hi hz => by
    rcases Nat.eq_zero_or_pos i with h | h
    · exact h
    · have := key 0 i (Nat.lt_trans h hi) hi h
      rw [Ahead, hz, le_nil] at this
      cases this
  have root : ∀ (h : 0 < rs.length), rs[0].1 = [] := fun h => by
    obtain ⟨j, hj, ej⟩ := hmem [] h0
    have := first j hj ej
    subst this
    exact ej
  intro i r hr
  obtain ⟨hi, rfl⟩ := List.getElem?_eq_some_iff.mp hr
  have iff1 : rs[i].1 = [] ↔ rs.take i = [] := by
    constructor
    · intro hz
      rw [first i hi hz]
      rfl
    · intro hz
      have hl := congrArg List.length hz
      rw [List.length_take, List.length_nil] at hl
      have : i = 0 := by omega
      subst this
      exact root hi
  refine ⟨iff1, fun l hl => ?_⟩
  have ipos : 0 < i := by
    rcases Nat.eq_zero_or_pos i with h | h
    · subst h
      cases hl
    · exact h
  have hl2 : rs[i - 1]? = some l := by
    rw [List.getLast?_eq_getElem?, List.length_take, Nat.min_eq_left (Nat.le_of_lt hi), List.getElem?_take_of_lt (by omega)] at hl
    exact hl
  obtain ⟨hi1, rfl⟩ := List.getElem?_eq_some_iff.mp hl2
  refine ⟨key (i - 1) i hi1 hi (by omega), ?_⟩
  have ne : rs[i].1 ≠ [] := fun z => by
    have := first i hi z
    omega
  obtain ⟨j, hj, ej⟩ := hmem _ (hc _ (hp.mem_iff.mp (List.mem_map.mpr ⟨rs[i], List.getElem_mem hi, rfl⟩)))
  have hji : j < i := conv j i hj hi (by rw [ej]; exact drop_ahead _ ne)
  refine List.mem_map.mpr ⟨rs[j], ?_, ej⟩
  rw [List.mem_iff_getElem?]
  exact ⟨j, by rw [List.getElem?_take_of_lt hji]; exact List.getElem?_eq_getElem hj⟩
theorem name_a7 {n : Str} (h : nameB n = true) : A7 n := fun c hc => by
  unfold nameB at h
  rw [Bool.and_eq_true, Bool.and_eq_true] at h
  have hl := List.all_eq_true.mp (Bool.and_eq_true _ _ ▸ h.2).2 c hc
  have : ∀ d ∈ letS.cps.toList, d < 128 := by decide +kernel
  exact this c (of_decide_eq_true hl)
/-! ### _law_start -/
abbrev sStartL : Stmt := topS 28
theorem scStartL : FnScope ["_law_box_here", "_law_names_here", "_law_upto", "_law_paths_here", "_law_turn", "_law_path_here"] ["_law_box_here", "_law_names_here", "_law_upto"] (defScope sStartL) := ⟨rfl, rfl, rfl, by decide +kernel, rfl, by decide +kernel, by decide +kernel⟩
/-- rows as they are drawn -/
structure Drawn (rs : List Rw) : Prop where
  good : Good rs
  ne : rs ≠ []
  n8 : rs.length ≤ 8
  paths : ∀ r ∈ rs, r.1.length ≤ 3 ∧ ∀ n ∈ r.1, nameB n = true
  worths : ∀ r ∈ rs, -4 ≤ r.2.1 ∧ r.2.1 ≤ 8 ∧ nameB r.2.2 = true
def spStartL : Sp := fun vs H Q _ => ∃ (p N : Addr) (ns : List Str), vs = [.ref p, .ref N, .int 8] ∧ Box H p ∧ H N = some (.lst (ns.map V.str)) ∧ N ≠ p ∧ ns.length = 4 ∧ (∀ n ∈ ns, nameB n = true) ∧
  ∀ (L : Addr) (us : List V) (rs : List Rw) (H' : Hp), SameBut p H H' → Box H' p → H' L = some (.lst us) → RowsAt H' us rs → Drawn rs → Q (.ref L) H'
/-- the paths by now -/
structure Pl (qs : List (List Str)) : Prop where
  nd : qs.Nodup
  hd : qs.head? = some []
  up : ∀ q ∈ qs, q.dropLast ∈ qs
  sh : ∀ q ∈ qs, q.length ≤ 3 ∧ ∀ n ∈ q, nameB n = true
theorem Pl.more {qs : List (List Str)} {q : List Str} {n : Str} (h : Pl qs) (hq : q ∈ qs) (hn : nameB n = true) (hnew : q ++ [n] ∉ qs) (hl : (q ++ [n]).length ≤ 3) : Pl (qs ++ [q ++ [n]]) := by
  refine ⟨?_, ?_, fun a ha => ?_, fun a ha => ?_⟩
  · rw [List.nodup_append]
    refine ⟨h.nd, by simp, fun a ha b hb z => hnew ?_⟩
    rw [List.mem_singleton.mp hb] at z
    rw [← z]
    exact ha
  · rw [List.head?_append, h.hd]
    rfl
  · rcases List.mem_append.mp ha with ha | ha
    · exact List.mem_append_left _ (h.up a ha)
    · rw [List.mem_singleton.mp ha, List.dropLast_concat]
      exact List.mem_append_left _ hq
  · rcases List.mem_append.mp ha with ha | ha
    · exact h.sh a ha
    · rw [List.mem_singleton.mp ha]
      refine ⟨hl, fun m hm => ?_⟩
      rcases List.mem_append.mp hm with hm | hm
      · exact (h.sh q hq).2 m hm
      · rw [List.mem_singleton.mp hm]
        exact hn
section
variable {P : Program} {w : World} {K : PySem.W.Frag} {mg : Str → Option Value} {base : Heap}
theorem ok_startL {f : Addr} {fd : FuncData} (F : Fun K "_law_start" "_law_start" sStartL f fd) (T : GloP K mg) (dt : Df P w K mg base "_law_take" 1 ["_law_box_here", "_law_many"] spTk) : FnOk P w K mg base CX0 2 f fd ["_law_box_here", "_law_names_here", "_law_upto"] spStartL := by
  refine F.ok scStartL (k := 1) (fun vs H Q E h => ?_) (fun cdv A outer s H vs Q E hr h => ?_)
  · obtain ⟨p, N, ns, rfl, _⟩ := h
    rfl
  · obtain ⟨p, N, ns, rfl, hb, hN, nNp, hn4, hnB, q⟩ := h
    refine ⟨_, (pss_cons (ps_set (i := 3) scStartL.nd rfl (Or.inl rfl) (pe_lst (pa_cons (pe_tup pa_nil) pa_nil)))
      (pss_cons (ps_for PassesOwn.never rfl (pi_range1 (by rfl) T.range (pa_cons (pe_df (E := E0) dt hr (by rfl) (pa_cons (pv 0) (pa_cons (pv 2) pa_nil))) pa_nil)) (pg_name (i := 4) scStartL.nd rfl (Or.inl rfl)) (pss_cut (ps_set (i := 5) scStartL.nd rfl (Or.inl rfl) (pe_op op_catA (pe_ix ix_lst (pv 3) (pe_df (E := E0) dt hr (by rfl) (pa_cons (pv 0) (pa_cons (pe_callB call_len_seq (by rfl) T.len PySem.boot_len (pa_cons (pv 3) pa_nil)) pa_nil))) (fun _ _ => rfl)) (pe_tup (pa_cons (pe_ix ix_lst (pv 1) (pe_df (E := E0) dt hr (by rfl) (pa_cons (pv 0) (pa_cons (pe_callB call_len_seq (by rfl) T.len PySem.boot_len (pa_cons (pv 1) pa_nil)) pa_nil))) (fun _ _ => rfl)) pa_nil))))
      (pss_one (ps_if (PW.pt (pw_and (pt_cmpR (op_notInD (u65 hr)) (pv 5) (pv 3) (by rfl)) (pw_and1 (pt_cmpR op_lt (pe_callB call_len_seq (by rfl) T.len PySem.boot_len (pa_cons (pv 5) pa_nil)) pe_int (nomark _))))) (pss_one (ps_expr (pe_bm PySem.F.plainAttrs_list PySem.F.slot_list_append PySem.F.type_list_append mt_append (pv 3) (pa_cons (pv 5) pa_nil)))) pss_nil))))
      (pss_one (ps_ret (pe_lc (own := [("_law_path_here", 5)]) (g := gName 5) (by rfl) scStartL.nd (pi_list (pe_callB (cr_sortPaths hr.units) (by rfl) T.sorted (by decide +kernel) (pa_cons (pv 3) pa_nil))) (blkOk_by (own := [("_law_path_here", 5)]) (N := ["_law_box_here", "_law_names_here", "_law_upto", "_law_paths_here", "_law_turn", "_law_path_here"]) (sc := defScope sStartL) (by decide +kernel)) (fun _ _ _ _ _ => (pg_name (i := 5) scStartL.nd rfl (Or.inl rfl))) (fun _ _ _ _ _ => pts_nil) (fun _ _ _ _ _ => (pe_tup (pa_cons (pv 5) (pa_cons (pe_op op_sub (pe_df (E := E0) dt hr (by rfl) (pa_cons (pv 0) (pa_cons pe_int pa_nil))) pe_int) (pa_cons (pe_ix ix_lst (pv 1) (pe_df (E := E0) dt hr (by rfl) (pa_cons (pv 0) (pa_cons pe_int pa_nil))) (fun _ _ => rfl)) pa_nil)))))))))), ?_⟩
    refine ⟨(by show 0 ≤ sizeLine; decide), fun e0 n0 => ?_⟩
    have s0 := same_upd (o := .tup []) n0
    have ee0 : (upd H e0 (.tup [])) e0 = some (.tup []) := upd_same
    generalize (upd H e0 (.tup [])) = H1 at s0 ee0 ⊢
    refine ⟨(by show 1 ≤ sizeLine; decide), fun L nL => ?_⟩
    have s1 := same_upd (o := .lst [.ref e0]) nL
    have eL1 : (upd H1 L (.lst [.ref e0])) L = some (.lst [.ref e0]) := upd_same
    generalize (upd H1 L (.lst [.ref e0])) = H2 at s1 eL1 ⊢
    have s02 : Same H H2 := fun b o z => s1 b o (s0 b o z)
    have nLH : H L = none := by
      cases hz : H L with
      | none => rfl
      | some o => rw [s0 _ _ hz] at nL; cases nL
    have nLp : L ≠ p := hb.ne nLH
    have nLN : L ≠ N := fun z => by rw [z, hN] at nLH; cases nLH
    have b2 := hb.same s02
    refine ⟨_, rfl, _, rfl, p, 8, rfl, b2, by decide, by decide, fun r H3 s3 b3 r0 r8 => ?_⟩
    refine ⟨r, rfl, by omega, by omega, for_range (lo := 0) (fun i σ H' => ∃ (us : List V) (qs : List (List Str)) (t4 t5 : Option V), σ = [some (.ref p), some (.ref N), some (.int 8), some (.ref L), t4, t5] ∧ SameBut p H H' ∧ Box H' p ∧ H' L = some (.lst us) ∧ PathsAt H' us qs ∧ Pl qs ∧ qs.length ≤ i + 1) ⟨[.ref e0], [[]], _, _, rfl, fun b o nb z => s3 b o nb (s02 b o z), b3, s3 _ _ nLp eL1, ?_, ⟨by simp, rfl, by simp, by simp⟩, Nat.le_refl _⟩ ?_ ?_⟩
    · have ne0 : e0 ≠ p := hb.ne n0
      exact .cons ⟨e0, rfl, s3 _ _ ne0 (s1 _ _ ee0)⟩ .nil
    · rintro i σ H4 hi ⟨us, qs, t4, t5, rfl, sb, b4, eL, hP, hQ, hl⟩
      have ul := hP.len
      have qpos : 0 < qs.length := by
        cases qs with
        | nil => cases hQ.hd
        | cons _ _ => exact Nat.succ_pos _
      have q60 : qs.length ≤ 8 := by omega
      refine ⟨fun σ' H' => ∃ (pn : Addr) (q0 : List Str) (nm : Str), q0 ∈ qs ∧ nameB nm = true ∧ σ' = [some (.ref p), some (.ref N), some (.int 8), some (.ref L), some (.int (0 + (i : Nat))), some (.ref pn)] ∧ SameBut p H4 H' ∧ Box H' p ∧ H' pn = some (.tup ((q0 ++ [nm]).map V.str)), ?_, ?_⟩
      · refine ⟨_, rfl, _, rfl, _, rfl, L, _, rfl, .inl (SqL.of eL), p, _, rfl, b4, by omega, by omega, fun k1 H5 s5 b5 k10 k11 => ?_⟩
        have eL5 := s5 _ _ nLp eL
        have hP5 := hP.kp (b4.kp s5)
        have hk1 : k1.toNat < qs.length := by omega
        obtain ⟨v, hv, pa, rfl, epa⟩ := hP5.at (List.getElem?_eq_getElem hk1)
        refine ⟨L, us, k1, .ref pa, rfl, rfl, eL5, ?_, ?_⟩
        · unfold atI ixN
          rw [if_pos k10, if_pos (by omega)]
          exact hv
        have eN4 : H4 N = some (.lst (ns.map V.str)) := sb _ _ nNp hN
        have eN5 := s5 _ _ nNp eN4
        refine ⟨_, rfl, _, rfl, _, rfl, N, _, rfl, .inl (SqL.of eN5), ?_⟩
        rw [List.length_map, hn4]
        refine ⟨p, _, rfl, b5, by decide, by decide, fun k2 H6 s6 b6 k20 k21 => ?_⟩
        have hk2 : k2.toNat < ns.length := by omega
        have eN6 := s6 _ _ nNp eN5
        have hat := atI_strs hk2
        rw [show ((k2.toNat : Nat) : Int) = k2 by omega] at hat
        refine ⟨N, _, k2, _, rfl, rfl, eN6, hat, ?_⟩
        have hq0 : qs[k1.toNat] ∈ qs := List.getElem_mem hk1
        have hnm : nameB ns[k2.toNat] = true := hnB _ (List.getElem_mem hk2)
        have epa6 := (b5.kp s6) _ _ (fun _ z => by cases z) epa
        generalize qs[k1.toNat] = q0 at hq0 epa6
        generalize ns[k2.toNat] = nm at hnm ⊢
        refine ⟨(by show 1 ≤ sizeLine; decide), fun tn ntn => ?_⟩
        have s7 := same_upd (o := .tup [.str nm]) ntn
        have e7 : (upd H6 tn (.tup [.str nm])) tn = some (.tup [.str nm]) := upd_same
        generalize (upd H6 tn (.tup [.str nm])) = H7 at s7 e7 ⊢
        have sb47 : SameBut p H4 H7 := fun b o nb z => s7 b o (s6 b o nb (s5 b o nb z))
        refine ⟨pa, tn, q0.map V.str, [.str nm], rfl, rfl, SqT.of (s7 _ _ epa6), SqT.of e7, ?_, fun hx => ?_, (fun _ hy => nomatch hy), fun _ _ p1 np1 => ?_⟩
        · rw [List.length_map]
          have := (hQ.sh q0 hq0).1
          exact Nat.le_trans (show q0.length + 1 ≤ 4 by omega) (by decide)
        · have hx2 : q0 = [] := by
            cases q0 with
            | nil => rfl
            | cons _ _ => cases hx
          subst hx2
          exact ⟨tn, [], nm, hq0, hnm, rfl, sb47, b6.same s7, e7⟩
        · have s8 := same_upd (o := .tup (q0.map V.str ++ [.str nm])) np1
          refine ⟨p1, q0, nm, hq0, hnm, rfl, fun b o nb z => s8 b o (sb47 b o nb z), (b6.same s7).same s8, ?_⟩
          rw [upd_same, List.map_append]
          rfl
      rintro σ' H5 ⟨pn, q0, nm, hq0, hnm, rfl, s5, b5, e5⟩
      have eL5 := s5 _ _ nLp eL
      have hP5 := hP.kp (b4.kp s5)
      have sb5 : SameBut p H H5 := fun b o nb z => s5 b o nb (sb b o nb z)
      have a7q : ∀ ps ∈ qs, ∀ n ∈ ps, A7 n := fun ps hps n hn => name_a7 ((hQ.sh ps hps).2 n hn)
      have a7p : ∀ n ∈ q0 ++ [nm], A7 n := fun n hn => by
        rcases List.mem_append.mp hn with hn | hn
        · exact a7q q0 hq0 n hn
        · rw [List.mem_singleton.mp hn]
          exact name_a7 hnm
      refine ⟨_, rfl, _, rfl, pathD (q0 ++ [nm]), qs.map pathD, .tup (SqT.of e5) (dp_strs _), .lst (SqL.of eL5) hP5.dp, shaped_path a7p, shaped_paths a7q, _, rfl, ?_⟩
      rw [any_path]
      by_cases hin : q0 ++ [nm] ∈ qs
      · rw [decide_eq_true hin]
        exact ⟨us, qs, _, _, rfl, sb5, b5, eL5, hP5, hQ, by omega⟩
      · rw [decide_eq_false hin]
        refine ⟨_, rfl, pn, _, rfl, .inr (SqT.of e5), _, _, rfl, rfl, _, rfl, ?_⟩
        rw [List.length_map]
        refine ite2 (fun hlt => ?_) (fun hlt => ?_)
        · have hl4 : (q0 ++ [nm]).length ≤ 3 := by
            have := of_decide_eq_true hlt
            omega
          refine ⟨_, rfl, .inl ⟨rfl, _, SqL.of eL5⟩, _, rfl, L, us, _, rfl, rfl, eL5, ?_, ?_⟩
          · rw [ul]
            exact Nat.lt_of_le_of_lt q60 (by decide)
          have kx : Kp H5 (upd H5 L (.lst (us ++ [.ref pn]))) := fun b o n z => by
            rw [upd_ne (fun e => by rw [e, eL5] at z; exact n _ (Option.some.inj z).symm)]
            exact z
          refine ⟨us ++ [.ref pn], qs ++ [q0 ++ [nm]], _, _, rfl, fun b o nb z => ?_, ?_, upd_same, (hP5.kp kx).snoc ⟨pn, rfl, kx _ _ (fun _ z => by cases z) e5⟩, hQ.more hq0 hnm hin hl4, by rw [List.length_append, List.length_singleton]; omega⟩
          · rw [upd_ne (ne_of_none z nLH)]
            exact sb5 b o nb z
          · obtain ⟨x0, x1, x2, ex, rx⟩ := b5
            exact ⟨x0, x1, x2, by rw [upd_ne nLp.symm]; exact ex, rx⟩
        · exact ⟨us, qs, _, _, rfl, sb5, b5, eL5, hP5, hQ, by omega⟩
    · rintro σ H4 ⟨us, qs, t4, t5, rfl, sb, b4, eL, hP, hQ, hl⟩
      have q8 : qs.length ≤ 8 := by omega
      refine ⟨_, rfl, L, us, qs, rfl, SqL.of eL, hP, hQ.hd, fun ys S hY nS => ?_⟩
      have s5 := same_upd (o := .lst ys) nS
      have eS : (upd H4 S (.lst ys)) S = some (.lst ys) := upd_same
      have hY5 := hY.kp (Same.kp s5)
      have nSp : S ≠ p := b4.ne nS
      have b5 := b4.same s5
      generalize (upd H4 S (.lst ys)) = H5 at s5 eS hY5 b5 ⊢
      have sb5 : SameBut p H H5 := fun b o nb z => s5 b o (sb b o nb z)
      have hlen : (qs.mergeSort pathLe).length = qs.length := (List.mergeSort_perm qs pathLe).length_eq
      refine ⟨S, rfl, ⟨_, SqL.of eS⟩, fun D nD => lc_list (xs := ys) (fun i H' => SameBut p H5 H' ∧ Box H' p ∧ ∃ (rvs : List V) (rs : List Rw), H' D = some (.lst rvs) ∧ RowsAt H' rvs rs ∧ rs.map (·.1) = (qs.mergeSort pathLe).take i ∧ ∀ r ∈ rs, -4 ≤ r.2.1 ∧ r.2.1 ≤ 8 ∧ nameB r.2.2 = true) ?_ ?_ ?_ ?_⟩
      · have sd := same_upd (o := .lst []) nD
        exact ⟨Cor.Same.but sd, b5.same sd, [], [], upd_same, .nil, rfl, fun r hr => nomatch hr⟩
      · rintro i H' _ ⟨sx, _⟩
        exact SqL.of (sx _ _ nSp eS)
      · rintro i v H6 hv ⟨sx, b6, rvs, rs, eD, hR, hm, hw⟩
        have nDp : D ≠ p := b5.ne nD
        obtain ⟨q0, hq0, pa, rfl, epa⟩ : ∃ q0, (qs.mergeSort pathLe)[i]? = some q0 ∧ PathAt H5 v q0 := by
          have hi : i < (qs.mergeSort pathLe).length := by
            rw [← hY.len]
            exact (List.getElem?_eq_some_iff.mp hv).1
          obtain ⟨v', hv', h'⟩ := hY5.at (List.getElem?_eq_getElem hi)
          rw [hv] at hv'
          cases hv'
          exact ⟨_, List.getElem?_eq_getElem hi, h'⟩
        refine ⟨rfl, _, rfl, _, rfl, p, 13, rfl, b6, by decide, by decide, fun k1 H7 s7 b7 k10 k11 => ⟨_, _, rfl, rfl, _, rfl, _, rfl, p, 2, rfl, b7, by decide, by decide, fun k2 H8 s8 b8 k20 k21 => ?_⟩⟩
        have hk2 : k2.toNat < ns.length := by omega
        have eN8 : H8 N = some (.lst (ns.map V.str)) := s8 _ _ nNp (s7 _ _ nNp (sx _ _ nNp (sb5 _ _ nNp hN)))
        have hat := atI_strs hk2
        rw [show ((k2.toNat : Nat) : Int) = k2 by omega] at hat
        refine ⟨N, _, k2, _, rfl, rfl, eN8, hat, (by show 3 ≤ sizeLine; decide), fun t nt => ?_⟩
        have hnm : nameB ns[k2.toNat] = true := hnB _ (List.getElem_mem hk2)
        generalize ns[k2.toNat] = nm at hnm ⊢
        have s9 := same_upd (o := .tup [.ref pa, .int (k1 - 4), .str nm]) nt
        have e9 : (upd H8 t (.tup [.ref pa, .int (k1 - 4), .str nm])) t = some (.tup [.ref pa, .int (k1 - 4), .str nm]) := upd_same
        generalize (upd H8 t (.tup [.ref pa, .int (k1 - 4), .str nm])) = H9 at s9 e9 ⊢
        have s69 : SameBut p H6 H9 := fun b o nb z => s9 b o (s8 b o nb (s7 b o nb z))
        have eD9 := s69 _ _ nDp eD
        have epa9 := s69 _ _ (fun z => by obtain ⟨_, _, _, e, _⟩ := b5; rw [z, e] at epa; cases epa) (sx _ _ (fun z => by obtain ⟨_, _, _, e, _⟩ := b5; rw [z, e] at epa; cases epa) epa)
        have hR9 := hR.kp (b6.kp s69)
        have hlr : rs.length ≤ 8 := by
          have := congrArg List.length hm
          rw [List.length_map, List.length_take] at this
          omega
        have kx : Kp H9 (upd H9 D (.lst (rvs ++ [.ref t]))) := fun b o n z => by
          rw [upd_ne (fun e => by rw [e, eD9] at z; exact n _ (Option.some.inj z).symm)]
          exact z
        refine ⟨rvs, eD9, ?_, fun b o nb z => ?_, ?_, rvs ++ [.ref t], rs ++ [(q0, k1 - 4, nm)], upd_same, (hR9.kp kx).snoc ⟨t, pa, rfl, kx _ _ (fun _ z => by cases z) e9, kx _ _ (fun _ z => by cases z) epa9⟩, ?_, fun r hr => ?_⟩
        · rw [hR.len]
          exact Nat.lt_of_le_of_lt hlr (by decide)
        · rw [upd_ne (ne_of_none z nD)]
          exact s69 b o nb (sx b o nb z)
        · obtain ⟨x0, x1, x2, ex, rx⟩ := b8.same s9
          exact ⟨x0, x1, x2, by rw [upd_ne nDp.symm]; exact ex, rx⟩
        · rw [List.map_append, hm, List.take_succ, hq0]
          rfl
        · rcases List.mem_append.mp hr with hr | hr
          · exact hw r hr
          · rw [List.mem_singleton.mp hr]
            exact ⟨by show (-4 : Int) ≤ k1 - 4; omega, by show k1 - 4 ≤ 8; omega, hnm⟩
      · rintro H6 ⟨sx, b6, rvs, rs, eD, hR, hm, hw⟩
        rw [hY.len, List.take_length] at hm
        have hlr := congrArg List.length hm
        rw [List.length_map, hlen] at hlr
        have h0 : ([] : List Str) ∈ qs := by
          cases qs with
          | nil => cases hQ.hd
          | cons a _ =>
            have := Option.some.inj hQ.hd
            rw [← this]
            exact List.mem_cons_self
        refine q D rvs rs H6 (fun b o nb z => sx b o nb (sb5 b o nb z)) b6 eD hR ⟨sorted_good hQ.nd h0 hQ.up hm, fun z => ?_, by omega, fun r hr => ?_, hw⟩
        · rw [z, List.length_nil] at hlr
          rw [List.length_eq_zero_iff.mp hlr.symm] at h0
          cases h0
        · have : r.1 ∈ qs.mergeSort pathLe := by rw [← hm]; exact List.mem_map.mpr ⟨r, hr, rfl⟩
          exact hQ.sh _ ((List.mergeSort_perm qs pathLe).mem_iff.mp this)
end
end Law

set_option Elab.async false
set_option linter.all false
set_option maxRecDepth 100000
set_option maxHeartbeats 1000000
/-! ### the text of a beginning is read as it was drawn (no program here) -/
namespace Law
open PySem PySem.Spec PyProof.Rows L2 Cor
theorem mem_app {a b : Str} {c : Nat} : c ∈ (a ++ b).cps.toList ↔ c ∈ a.cps.toList ∨ c ∈ b.cps.toList := by
  rw [Str.cps_append, Array.toList_append, List.mem_append]
theorem mem_joinT {y : Str} {c : Nat} : ∀ {ps : List Str}, c ∈ (Txt.join y ps).cps.toList → c ∈ y.cps.toList ∨ ∃ p ∈ ps, c ∈ p.cps.toList := by
  intro ps h
  rw [TL.join_eq] at h
  induction ps with
  | nil => exact absurd h (by show c ∉ (Str.empty).cps.toList; simp [Str.empty])
  | cons x ps ih =>
    cases ps with
    | nil => exact .inr ⟨x, List.mem_cons_self, h⟩
    | cons z ps =>
      have h : c ∈ (x ++ y ++ Str.join y (z :: ps)).cps.toList := h
      rw [mem_app, mem_app] at h
      rcases h with (h | h) | h
      · exact .inr ⟨x, List.mem_cons_self, h⟩
      · exact .inl h
      · rcases ih h with h | ⟨p, hp, h⟩
        · exact .inl h
        · exact .inr ⟨p, List.mem_cons_of_mem _ hp, h⟩
theorem name_sign {n : Str} (h : nameB n = true) : ∀ c ∈ n.cps.toList, 97 ≤ c ∧ c ≤ 122 := fun c hc => by
  unfold nameB at h
  rw [Bool.and_eq_true, Bool.and_eq_true] at h
  have hl := List.all_eq_true.mp (Bool.and_eq_true _ _ ▸ h.2).2 c hc
  have : ∀ d ∈ letS.cps.toList, 97 ≤ d ∧ d ≤ 122 := by decide +kernel
  exact this c (of_decide_eq_true hl)
theorem name_pos {n : Str} (h : nameB n = true) : 1 ≤ n.length := by
  unfold nameB at h
  rw [Bool.and_eq_true, Bool.and_eq_true, decide_eq_true_eq, decide_eq_true_eq] at h
  exact h.1.1
def numS (n : Int) : Str := Str.ofString (toString n)
theorem small_num {n : Int} (h0 : -4 ≤ n) (h8 : n ≤ 8) : numT (numS n) = some n ∧ (numS n).length ≤ 2 ∧ ∀ c ∈ (numS n).cps.toList, 45 ≤ c ∧ c ≤ 57 ∧ c ≠ 47 := by
  have : ∀ k : Fin 13, numT (numS (((k : Nat) : Int) - 4)) = some (((k : Nat) : Int) - 4) ∧ (numS (((k : Nat) : Int) - 4)).length ≤ 2 ∧ ∀ c ∈ (numS (((k : Nat) : Int) - 4)).cps.toList, 45 ≤ c ∧ c ≤ 57 ∧ c ≠ 47 := by decide +kernel
  have := this ⟨(n + 4).toNat, by omega⟩
  rw [show (((n + 4).toNat : Nat) : Int) - 4 = n by omega] at this
  exact this
theorem path_sign {p : List Str} (h : ∀ n ∈ p, nameB n = true) : ∀ c ∈ (pathText p).cps.toList, c = 47 ∨ (97 ≤ c ∧ c ≤ 122) := fun c hc => by
  unfold pathText at hc
  have e : (Str.ofString "/").cps.toList = [47] := by decide +kernel
  rw [mem_app] at hc
  rcases hc with hc | hc
  · rw [e] at hc
    exact .inl (List.mem_singleton.mp hc)
  · rcases mem_joinT hc with hc | ⟨n, hn, hc⟩
    · rw [e] at hc
      exact .inl (List.mem_singleton.mp hc)
    · exact .inr (name_sign (h n hn) c hc)
theorem path_text {p : List Str} (h : ∀ n ∈ p, nameB n = true) : pathT (pathText p) = some p := by
  cases p with
  | nil =>
    have : pathText [] = "/" := by decide +kernel
    rw [this]
    unfold pathT
    rw [if_pos rfl]
  | cons n ns =>
    have hj : pathText (n :: ns) = Txt.join "/" (("" : Str) :: n :: ns) := by
      unfold pathText
      rw [TL.join_eq, TL.join_eq]
      show _ = ("" : Str) ++ "/" ++ Str.join "/" (n :: ns)
      rw [show (("" : Str) ++ "/") = "/" from by decide +kernel]
    have hs : Txt.split (pathText (n :: ns)) "/" = ("" : Str) :: n :: ns := by
      rw [hj]
      refine split_parts one_slash (by simp) fun q hq => ?_
      rcases List.mem_cons.mp hq with rfl | hq
      · decide +kernel
      · intro hc
        have := name_sign (h q hq) 47 hc
        omega
    have hne : ¬ pathText (n :: ns) = "/" := fun z => by
      have e1 : Txt.split (pathText (n :: ns)) "/" = [("" : Str), ("" : Str)] := by rw [z]; decide +kernel
      rw [hs] at e1
      cases e1
      have := name_pos (h "" List.mem_cons_self)
      exact absurd this (by decide +kernel)
    unfold pathT
    rw [if_neg hne, hs]
    unfold namesOf
    exact if_pos ⟨rfl, by simp, List.all_eq_true.mpr h⟩
/-- a row that is drawn -/
structure DrawnR (r : Rw) : Prop where
  l3 : r.1.length ≤ 3
  ns : ∀ n ∈ r.1, nameB n = true
  lo : -4 ≤ r.2.1
  hi : r.2.1 ≤ 8
  hs : nameB r.2.2 = true
theorem Drawn.row {rs : List Rw} (h : Drawn rs) : ∀ r ∈ rs, DrawnR r := fun r hr => ⟨(h.paths r hr).1, (h.paths r hr).2, (h.worths r hr).1, (h.worths r hr).2.1, (h.worths r hr).2.2⟩
theorem row_join {r : Rw} : rowText r = Txt.join " " [pathText r.1, numS r.2.1, "at", r.2.2] := by
  rw [TL.join_eq]
  show _ = pathText r.1 ++ " " ++ (numS r.2.1 ++ " " ++ ("at" ++ " " ++ r.2.2))
  unfold rowText numS
  rw [Str.empty_append]
  have e2 : (" at " : Str) = " " ++ ("at" ++ " ") := by decide +kernel
  rw [e2]
  simp only [Str.append_assoc]
theorem DrawnR.parts {r : Rw} (h : DrawnR r) : ∀ p ∈ [pathText r.1, numS r.2.1, "at", r.2.2], ∀ c ∈ p.cps.toList, 45 ≤ c ∧ c ≤ 122 := by
  intro p hp c hc
  rcases List.mem_cons.mp hp with rfl | hp
  · rcases path_sign h.ns c hc with e | e <;> omega
  rcases List.mem_cons.mp hp with rfl | hp
  · have := (small_num h.lo h.hi).2.2 c hc
    omega
  rcases List.mem_cons.mp hp with rfl | hp
  · have : ∀ c ∈ (Str.ofString "at").cps.toList, 45 ≤ c ∧ c ≤ 122 := by decide +kernel
    exact this c hc
  · rw [List.mem_singleton.mp hp] at hc
    have := name_sign h.hs c hc
    omega
theorem DrawnR.read {r : Rw} (h : DrawnR r) : rowT (rowText r) = some r := by
  unfold rowT
  rw [row_join, split_parts one_blank (by simp) (fun p hp hc => by have := h.parts p hp 32 hc; omega)]
  show (if ("at" : Str) = "at" ∧ nameB r.2.2 = true then (match pathT (pathText r.1), numT (numS r.2.1) with | some p, some n => some (p, n, r.2.2) | _, _ => none) else none) = some r
  rw [if_pos ⟨rfl, h.hs⟩, path_text h.ns, (small_num h.lo h.hi).1]
theorem DrawnR.signs {r : Rw} (h : DrawnR r) : ∀ c ∈ (rowText r).cps.toList, 32 ≤ c ∧ c ≤ 122 := by
  intro c hc
  rw [row_join] at hc
  rcases mem_joinT hc with hc | ⟨p, hp, hc⟩
  · have : ∀ c ∈ (Str.ofString " ").cps.toList, 32 ≤ c ∧ c ≤ 122 := by decide +kernel
    exact this c hc
  · have := h.parts p hp c hc
    omega
theorem DrawnR.len {r : Rw} (h : DrawnR r) : (rowText r).length ≤ 40 := by
  have hs := sum_len (p := r.1) (B := 6) fun n hn => name_len (h.ns n hn)
  have hj := join_le (y := "/") r.1
  have l1 : Str.length (Str.ofString "/") = 1 := by decide +kernel
  rw [l1] at hj
  have h3 := h.l3
  have hp : (pathText r.1).length ≤ 22 := by
    unfold pathText
    rw [Str.length_append, l1]
    omega
  have hn := (small_num h.lo h.hi).2.1
  unfold numS at hn
  have hh := name_len h.hs
  unfold rowText
  have l1 : Str.length (Str.ofString " ") = 1 := by decide +kernel
  have l2 : Str.length (Str.ofString " at ") = 4 := by decide +kernel
  have l3 : Str.empty.length = 0 := by decide +kernel
  rw [Str.length_append, Str.length_append, Str.length_append, Str.length_append, Str.length_append, l1, l2, l3]
  omega
theorem Drawn.len {rs : List Rw} (h : Drawn rs) : (storeText rs).length ≤ 328 := by
  have hs := sum_len (p := rs.map rowText) (B := 40) fun n hn => by
    obtain ⟨r, hr, rfl⟩ := List.mem_map.mp hn
    exact (h.row r hr).len
  have hj := join_le (y := "\n") (rs.map rowText)
  have l1 : Str.length (Str.ofString "\n") = 1 := by decide +kernel
  rw [l1] at hj
  have := h.n8
  rw [List.length_map] at hs hj
  unfold storeText
  omega
theorem Drawn.a7 {rs : List Rw} (h : Drawn rs) : A7 (storeText rs) := fun c hc => by
  rcases mem_joinT hc with hc | ⟨p, hp, hc⟩
  · have : ∀ c ∈ (Str.ofString "\n").cps.toList, c < 128 := by decide +kernel
    exact this c hc
  · obtain ⟨r, hr, rfl⟩ := List.mem_map.mp hp
    have := (h.row r hr).signs c hc
    omega
theorem Drawn.split {rs : List Rw} (h : Drawn rs) : Txt.split (storeText rs) "\n" = rs.map rowText := by
  refine split_parts one_line (fun z => h.ne (List.map_eq_nil_iff.mp z)) fun p hp hc => ?_
  obtain ⟨r, hr, rfl⟩ := List.mem_map.mp hp
  have := (h.row r hr).signs 10 hc
  omega
theorem good_read {rs : List Rw} (h : Good rs) (hr : ∀ r ∈ rs, rowT (rowText r) = some r) : ∀ (k i : Nat), i + k = rs.length → readRows ((rs.drop i).map rowText) (rs.take i) = .inr rs
  | 0, i, e => by
    rw [List.drop_of_length_le (by omega), List.take_of_length_le (by omega)]
    rfl
  | k + 1, i, e => by
    have hi : i < rs.length := by omega
    rw [List.drop_eq_getElem_cons hi, List.map_cons]
    show (match rowT (rowText rs[i]) with | some r => if fits (rs.take i) r then readRows ((rs.drop (i + 1)).map rowText) (rs.take i ++ [r]) else .inl (rs.take i).length | none => .inl (rs.take i).length) = _
    rw [hr _ (List.getElem_mem hi)]
    show (if fits (rs.take i) rs[i] then readRows ((rs.drop (i + 1)).map rowText) (rs.take i ++ [rs[i]]) else .inl (rs.take i).length) = _
    rw [if_pos (h i _ (List.getElem?_eq_getElem hi)), show rs.take i ++ [rs[i]] = rs.take (i + 1) from by rw [List.take_succ, List.getElem?_eq_getElem hi]; rfl]
    exact good_read h hr k (i + 1) (by omega)
theorem Drawn.read {rs : List Rw} (h : Drawn rs) : readRows (Txt.split (storeText rs) "\n") [] = .inr rs := by
  rw [h.split]
  exact good_read h.good (fun r hr => (h.row r hr).read) rs.length 0 (Nat.zero_add _)
end Law

set_option Elab.async false
set_option linter.all false
set_option maxRecDepth 100000
set_option maxHeartbeats 1000000
namespace Law
open PySem PySem.Spec PyProof.Rows L2 Cor
/-! ### the text of a beginning -/
abbrev sLPath : Stmt := topS 29
theorem scLPath : FnScope ["_law_path_here"] ["_law_path_here"] (defScope sLPath) := ⟨rfl, rfl, rfl, by decide +kernel, rfl, by decide +kernel, by decide +kernel⟩
abbrev sLText : Stmt := topS 30
theorem scLText : FnScope ["_law_rows", "_law_path_here", "_law_worth", "_law_house"] ["_law_rows"] (defScope sLText) := ⟨rfl, rfl, rfl, by decide +kernel, rfl, by decide +kernel, by decide +kernel⟩
def spLText : Sp := fun vs H Q _ => ∃ (L : Addr) (us : List V) (rs : List Rw), vs = [.ref L] ∧ H L = some (.lst us) ∧ RowsAt H us rs ∧ Drawn rs ∧ ∀ H', Same H H' → Q (.str (storeText rs)) H'
section
variable {P : Program} {w : World} {K : PySem.W.Frag} {mg : Str → Option Value} {base : Heap}
theorem ok_lPath {f : Addr} {fd : FuncData} (F : Fun K "_law_path" "_law_path" sLPath f fd) : FnOk P w K mg base CX0 1 f fd ["_law_path_here"] spPathText := by
  refine F.ok scLPath (k := 0) (fun vs H Q E h => ?_) (fun cdv A outer s H vs Q E hr h => ?_)
  · obtain ⟨a, p, rfl, _⟩ := h
    rfl
  · obtain ⟨a, p, rfl, ea, ⟨h1, h2⟩, q⟩ := h
    refine ⟨_, (pss_one (ps_ret (pe_op op_add_str pe_str (pe_join pe_str (pv 0))))), ?_⟩
    have hs := sum_len h2
    have l1 : Str.length (Str.ofString "/") = 1 := by decide +kernel
    have hj := join_le (y := "/") p
    rw [l1] at hj
    refine ⟨⟨_, rfl⟩, _, rfl, "/", a, p, rfl, rfl, .inr (SqT.of ea), ?_, ?_⟩
    · rw [l1]
      omega
    exact ⟨_, _, rfl, rfl, (by rw [l1]; exact Nat.le_trans (show 1 + (Txt.join "/" p).length ≤ 100000 by omega) (by decide)), q⟩
theorem ok_lText {f : Addr} {fd : FuncData} (F : Fun K "_law_start_text" "_law_start_text" sLText f fd) (T : GloP K mg) (dp : Df P w K mg base "_law_path" 1 ["_law_path_here"] spPathText) : FnOk P w K mg base CX0 2 f fd ["_law_rows"] spLText := by
  refine F.ok scLText (k := 1) (fun vs H Q E h => ?_) (fun cdv A outer s H vs Q E hr h => ?_)
  · obtain ⟨L, us, rs, rfl, _⟩ := h
    rfl
  · obtain ⟨L, us, rs, rfl, eL, hR, hd, q⟩ := h
    refine ⟨_, (pss_one (ps_ret (pe_join pe_str (pe_lc (own := [("_law_path_here", 1), ("_law_worth", 2), ("_law_house", 3)]) (g := gTup K 3 (gCons (gName 1) (gCons (gName 2) (gCons (gName 3) gNil)))) (by rfl) scLText.nd (pi_list (pv 0)) (blkOk_by (own := [("_law_path_here", 1), ("_law_worth", 2), ("_law_house", 3)]) (N := ["_law_rows", "_law_path_here", "_law_worth", "_law_house"]) (sc := defScope sLText) (by decide +kernel)) (fun _ _ _ _ _ => (pg_tup (n := 3) rfl (pgs_cons (pg_name (i := 1) scLText.nd rfl (Or.inl rfl)) (pgs_cons (pg_name (i := 2) scLText.nd rfl (Or.inl rfl)) (pgs_cons (pg_name (i := 3) scLText.nd rfl (Or.inl rfl)) pgs_nil))))) (fun _ _ _ _ _ => pts_nil) (fun _ _ _ _ _ => (pe_op op_add_str (pe_op op_add_str (pe_op op_add_str (pe_op op_add_str (pe_df (E := E0) dp hr (by rfl) (pa_cons (pv 1) pa_nil)) pe_str) (pe_callTy call_str_int (by rfl) T.str (by decide +kernel) (pa_cons (pv 2) pa_nil))) pe_str) (pv 3))))))), ?_⟩
    refine ⟨⟨_, rfl⟩, _, rfl, L, rfl, ⟨_, SqL.of eL⟩, fun D nD => lc_list (xs := us) (fun i H' => Same H H' ∧ H' D = some (.lst (((rs.take i).map rowText).map V.str))) ?_ ?_ ?_ ?_⟩
    · exact ⟨same_upd nD, upd_same⟩
    · rintro i H' _ ⟨sx, _⟩
      exact SqL.of (sx _ _ eL)
    · rintro i v H2 hv ⟨sx, eD⟩
      obtain ⟨r, hr', t, pa, rfl, et, epa⟩ := hR.get hv
      have dr := hd.row r (List.mem_of_getElem? hr')
      have l40 := dr.len
      have shp : Short r.1 := ⟨Nat.le_trans dr.l3 (by decide), fun n hn => name_len (dr.ns n hn)⟩
      have all : (Str.empty ++ pathText r.1 ++ " " ++ Str.ofString (toString r.2.1) ++ " at " ++ r.2.2 : Str).length ≤ sizeLine := Nat.le_trans l40 (by decide)
      rw [Str.empty_append] at all
      have pre : ∀ {a b : Str}, (a ++ b).length ≤ sizeLine → a.length ≤ sizeLine := fun {a b} z => by rw [Str.length_append] at z; omega
      have app : ∀ {a b : Str}, (a ++ b).length ≤ sizeLine → a.length + b.length ≤ sizeLine := fun {a b} z => by rw [Str.length_append] at z; exact z
      have hlog : r.2.1.natAbs.log2 < 1920 := by
        have h1 := dr.lo
        have h2 := dr.hi
        have : ∀ k : Fin 9, ((k : Nat)).log2 < 1920 := by decide +kernel
        exact this ⟨r.2.1.natAbs, by omega⟩
      refine ⟨t, _, rfl, SqT.of (sx _ _ et), rfl, _, _, rfl, _, _, rfl, _, _, rfl, rfl, rfl, ?_⟩
      refine ⟨_, rfl, pa, r.1, rfl, sx _ _ epa, shp, _, _, rfl, rfl, app (pre (pre (pre all))), _, rfl, _, rfl, hlog, _, _, rfl, rfl, app (pre (pre all)), _, _, rfl, rfl, app (pre all), _, rfl, _, _, rfl, rfl, app all, _, eD, ?_, fun b o z => ?_, ?_⟩
      · rw [List.length_map, List.length_map, List.length_take]
        exact Nat.lt_of_le_of_lt (Nat.le_trans (Nat.min_le_right _ _) hd.n8) (by decide)
      · rw [upd_ne (ne_of_none z nD)]
        exact sx b o z
      · rw [upd_same, List.take_succ, hr', List.map_append, List.map_append]
        show some (HO.lst (_ ++ [V.str (pathText r.1 ++ " " ++ Str.ofString (toString r.2.1) ++ " at " ++ r.2.2)])) = some (HO.lst (_ ++ [V.str (Str.empty ++ pathText r.1 ++ " " ++ Str.ofString (toString r.2.1) ++ " at " ++ r.2.2)]))
        rw [Str.empty_append]
    · rintro H2 ⟨sx, eD⟩
      rw [hR.len, List.take_length] at eD
      refine ⟨"\n", D, rs.map rowText, rfl, rfl, .inl (SqL.of eD), ?_, q H2 sx⟩
      have hs := sum_len (p := rs.map rowText) (B := 40) fun n hn => by
        obtain ⟨r, hr, rfl⟩ := List.mem_map.mp hn
        exact (hd.row r hr).len
      have l1 : Str.length (Str.ofString "\n") = 1 := by decide +kernel
      rw [l1]
      have := hd.n8
      rw [List.length_map] at hs ⊢
      omega
end
end Law

set_option Elab.async false
set_option linter.all false
set_option maxRecDepth 100000
set_option maxHeartbeats 1000000
/-! ### beginnings with great worths and deep paths are read back (no program here) -/
namespace Law
open PySem PySem.Spec PyProof.Rows L2 Cor
theorem numL_head : ∀ (n : Nat), n ≠ 0 → (TL.numL n).head? ≠ some 48 := by
  intro n
  induction n using Nat.strongRecOn with
  | ind n ih =>
    intro h0
    by_cases h : n < 10
    · rw [TL.numL_lt h]
      intro z
      have := Option.some.inj z
      omega
    · rw [TL.numL_step (by omega)]
      have hne := TL.numL_ne (n / 10)
      cases hl : TL.numL (n / 10) with
      | nil => exact absurd hl hne
      | cons c r =>
        have := ih (n / 10) (by omega) (by omega)
        rw [hl] at this
        exact this
theorem dig_in {c : Nat} (h : 48 ≤ c ∧ c ≤ 57) : isIn digS c = true := by
  have : ∀ k : Fin 10, isIn digS (48 + (k : Nat)) = true := by decide +kernel
  have := this ⟨c - 48, by omega⟩
  rwa [show 48 + (c - 48) = c by omega] at this
theorem num_cps (m : Nat) : (Str.ofString (toString ((m : Nat) : Int))).cps.toList = TL.numL m := TL.tl_num m
theorem numL_dig (m : Nat) : ∀ c ∈ TL.numL m, 48 ≤ c ∧ c ≤ 57 := fun c hc => TL.numL_digits m c hc
theorem fig_num {m : Nat} (h : m < 10 ^ 20) : figT (Str.ofString (toString ((m : Nat) : Int))) = some ((m : Nat) : Int) := by
  have e := num_cps m
  have hl := TL.numL_len (by decide : 0 < 20) h
  have hlen : (Str.ofString (toString ((m : Nat) : Int))).length = (TL.numL m).length := by rw [← len_cps, e]
  have hpos := List.length_pos_iff.mpr (TL.numL_ne m)
  have hb : figB (Str.ofString (toString ((m : Nat) : Int))) = true := by
    unfold figB
    rw [Bool.and_eq_true, Bool.and_eq_true, Bool.and_eq_true, decide_eq_true_eq, decide_eq_true_eq]
    refine ⟨⟨by omega, by omega⟩, ?_, ?_⟩
    · rw [e]
      exact List.all_eq_true.mpr fun c hc => dig_in (numL_dig m c hc)
    · rw [Bool.or_eq_true, decide_eq_true_eq, Bool.not_eq_true', decide_eq_false_iff_not]
      by_cases h0 : m = 0
      · left
        rw [h0]
        decide +kernel
      · right
        rw [e]
        exact numL_head m h0
  unfold figT
  rw [if_pos hb, e, TL.numL_val]
theorem big_num {n : Int} (h : n.natAbs < 10 ^ 20) : numT (numS n) = some n ∧ (numS n).length ≤ 21 ∧ ∀ c ∈ (numS n).cps.toList, 45 ≤ c ∧ c ≤ 57 ∧ c ≠ 47 := by
  unfold numS
  rcases Int.natAbs_eq n with e | e
  · generalize n.natAbs = m at h e
    subst e
    have hl := TL.numL_len (by decide : 0 < 20) h
    refine ⟨?_, ?_, fun c hc => ?_⟩
    · unfold numT
      rw [num_cps, if_neg]
      · exact fig_num h
      · intro z
        have hm : (45 : Nat) ∈ TL.numL m := List.mem_of_head? z
        have := numL_dig m 45 hm
        omega
    · rw [← len_cps, num_cps]
      omega
    · rw [num_cps] at hc
      have := numL_dig m c hc
      omega
  · generalize n.natAbs = m at h e
    subst e
    have hl := TL.numL_len (by decide : 0 < 20) h
    by_cases h0 : m = 0
    · subst h0
      refine ⟨by decide +kernel, by decide +kernel, ?_⟩
      decide +kernel
    · have hc1 : (Str.ofString (toString (-((m : Nat) : Int)))).cps.toList = 45 :: TL.numL m := by
        rw [neg_text m h0]
        have : ("-" ++ Str.ofString (toString ((m : Nat) : Int)) : Str).cps.toList = ("-" : Str).cps.toList ++ (Str.ofString (toString ((m : Nat) : Int))).cps.toList := by rw [Str.cps_append, Array.toList_append]
        rw [this, num_cps, show ("-" : Str).cps.toList = [45] from by decide +kernel]
        rfl
      refine ⟨?_, ?_, fun c hc => ?_⟩
      · unfold numT
        rw [hc1, if_pos (show (45 :: TL.numL m).head? = some 45 from rfl)]
        have ht : tailS (Str.ofString (toString (-((m : Nat) : Int)))) = Str.ofString (toString ((m : Nat) : Int)) := by
          refine cps_eq ?_
          unfold tailS
          rw [hc1, num_cps]
          rfl
        rw [ht, fig_num h]
        show (if ((m : Nat) : Int) = 0 then none else some (-((m : Nat) : Int))) = _
        rw [if_neg (by omega)]
      · rw [← len_cps, hc1, List.length_cons]
        omega
      · rw [hc1] at hc
        rcases List.mem_cons.mp hc with hc | hc
        · omega
        · have := numL_dig m c hc
          omega
structure BegR (r : Rw) : Prop where
  l9 : r.1.length ≤ 9
  ns : ∀ n ∈ r.1, nameB n = true
  nu : r.2.1.natAbs < 10 ^ 20
  hs : nameB r.2.2 = true
structure Beg (rs : List Rw) : Prop where
  good : Good rs
  ne : rs ≠ []
  n16 : rs.length ≤ 16
  row : ∀ r ∈ rs, BegR r
theorem BegR.parts {r : Rw} (h : BegR r) : ∀ p ∈ [pathText r.1, numS r.2.1, "at", r.2.2], ∀ c ∈ p.cps.toList, 45 ≤ c ∧ c ≤ 122 := by
  intro p hp c hc
  rcases List.mem_cons.mp hp with rfl | hp
  · rcases path_sign h.ns c hc with e | e <;> omega
  rcases List.mem_cons.mp hp with rfl | hp
  · have := (big_num h.nu).2.2 c hc
    omega
  rcases List.mem_cons.mp hp with rfl | hp
  · have : ∀ c ∈ (Str.ofString "at").cps.toList, 45 ≤ c ∧ c ≤ 122 := by decide +kernel
    exact this c hc
  · rw [List.mem_singleton.mp hp] at hc
    have := name_sign h.hs c hc
    omega
theorem BegR.read {r : Rw} (h : BegR r) : rowT (rowText r) = some r := by
  unfold rowT
  rw [row_join, split_parts one_blank (by simp) (fun p hp hc => by have := h.parts p hp 32 hc; omega)]
  show (if ("at" : Str) = "at" ∧ nameB r.2.2 = true then (match pathT (pathText r.1), numT (numS r.2.1) with | some p, some n => some (p, n, r.2.2) | _, _ => none) else none) = some r
  rw [if_pos ⟨rfl, h.hs⟩, path_text h.ns, (big_num h.nu).1]
theorem BegR.signs {r : Rw} (h : BegR r) : ∀ c ∈ (rowText r).cps.toList, 32 ≤ c ∧ c ≤ 122 := by
  intro c hc
  rw [row_join] at hc
  rcases mem_joinT hc with hc | ⟨p, hp, hc⟩
  · have : ∀ c ∈ (Str.ofString " ").cps.toList, 32 ≤ c ∧ c ≤ 122 := by decide +kernel
    exact this c hc
  · have := h.parts p hp c hc
    omega
theorem BegR.len {r : Rw} (h : BegR r) : (rowText r).length ≤ 100 := by
  have hs := sum_len (p := r.1) (B := 6) fun n hn => name_len (h.ns n hn)
  have hj := join_le (y := "/") r.1
  have l1 : Str.length (Str.ofString "/") = 1 := by decide +kernel
  rw [l1] at hj
  have h3 := h.l9
  have hp : (pathText r.1).length ≤ 64 := by
    unfold pathText
    rw [Str.length_append, l1]
    omega
  have hn := (big_num h.nu).2.1
  unfold numS at hn
  have hh := name_len h.hs
  unfold rowText
  have l1 : Str.length (Str.ofString " ") = 1 := by decide +kernel
  have l2 : Str.length (Str.ofString " at ") = 4 := by decide +kernel
  have l3 : Str.empty.length = 0 := by decide +kernel
  rw [Str.length_append, Str.length_append, Str.length_append, Str.length_append, Str.length_append, l1, l2, l3]
  omega
theorem Beg.len {rs : List Rw} (h : Beg rs) : (storeText rs).length ≤ 1616 := by
  have hs := sum_len (p := rs.map rowText) (B := 100) fun n hn => by
    obtain ⟨r, hr, rfl⟩ := List.mem_map.mp hn
    exact (h.row r hr).len
  have hj := join_le (y := "\n") (rs.map rowText)
  have l1 : Str.length (Str.ofString "\n") = 1 := by decide +kernel
  rw [l1] at hj
  have := h.n16
  rw [List.length_map] at hs hj
  unfold storeText
  omega
theorem Beg.a7 {rs : List Rw} (h : Beg rs) : A7 (storeText rs) := fun c hc => by
  rcases mem_joinT hc with hc | ⟨p, hp, hc⟩
  · have : ∀ c ∈ (Str.ofString "\n").cps.toList, c < 128 := by decide +kernel
    exact this c hc
  · obtain ⟨r, hr, rfl⟩ := List.mem_map.mp hp
    have := (h.row r hr).signs c hc
    omega
theorem Beg.split {rs : List Rw} (h : Beg rs) : Txt.split (storeText rs) "\n" = rs.map rowText := by
  refine split_parts one_line (fun z => h.ne (List.map_eq_nil_iff.mp z)) fun p hp hc => ?_
  obtain ⟨r, hr, rfl⟩ := List.mem_map.mp hp
  have := (h.row r hr).signs 10 hc
  omega
theorem Beg.read {rs : List Rw} (h : Beg rs) : readRows (Txt.split (storeText rs) "\n") [] = .inr rs := by
  rw [h.split]
  exact good_read h.good (fun r hr => (h.row r hr).read) rs.length 0 (Nat.zero_add _)
theorem Beg.shown {rs : List Rw} (h : Beg rs) : Shown rs := by
  refine read_shown (Nat.le_trans h.len (by decide)) ?_ h.read
  rw [h.split, List.length_map]
  have := h.n16
  omega
end Law

set_option Elab.async false
set_option linter.all false
set_option maxRecDepth 100000
set_option maxHeartbeats 1000000
namespace Law
open PySem PySem.Spec PyProof.Rows L2 Cor
def spStartN : Sp := fun vs H Q _ => ∃ (p N : Addr) (ns : List Str) (uu : Int), vs = [.ref p, .ref N, .int uu] ∧ 1 ≤ uu ∧ uu ≤ 16 ∧ Box H p ∧ H N = some (.lst (ns.map V.str)) ∧ N ≠ p ∧ ns.length = 4 ∧ (∀ n ∈ ns, nameB n = true) ∧
  ∀ (L : Addr) (us : List V) (rs : List Rw) (H' : Hp), SameBut p H H' → Box H' p → H' L = some (.lst us) → RowsAt H' us rs → Beg rs → Q (.ref L) H'
def spLTextN : Sp := fun vs H Q _ => ∃ (L : Addr) (us : List V) (rs : List Rw), vs = [.ref L] ∧ H L = some (.lst us) ∧ RowsAt H us rs ∧ Beg rs ∧ ∀ H', Same H H' → Q (.str (storeText rs)) H'
theorem log_20 {m : Nat} (h : m < 10 ^ 20) : m.log2 < 1920 := by
  rcases Nat.eq_zero_or_pos m with h0 | h0
  · rw [h0]
    decide
  · refine (Nat.log2_lt (by omega)).mpr (Nat.lt_of_lt_of_le h ?_)
    exact Nat.le_trans (show 10 ^ 20 ≤ 2 ^ 67 by decide) (Nat.pow_le_pow_right (by decide) (by decide))
section
variable {P : Program} {w : World} {K : PySem.W.Frag} {mg : Str → Option Value} {base : Heap}
theorem ok_startN {f : Addr} {fd : FuncData} (F : Fun K "_law_start" "_law_start" sStartL f fd) (T : GloP K mg) (dt : Df P w K mg base "_law_take" 1 ["_law_box_here", "_law_many"] spTk) : FnOk P w K mg base CX0 2 f fd ["_law_box_here", "_law_names_here", "_law_upto"] spStartN := by
  refine F.ok scStartL (k := 1) (fun vs H Q E h => ?_) (fun cdv A outer s H vs Q E hr h => ?_)
  · obtain ⟨p, N, ns, uu, rfl, _⟩ := h
    rfl
  · obtain ⟨p, N, ns, uu, rfl, u1, u16, hb, hN, nNp, hn4, hnB, q⟩ := h
    refine ⟨_, (pss_cons (ps_set (i := 3) scStartL.nd rfl (Or.inl rfl) (pe_lst (pa_cons (pe_tup pa_nil) pa_nil)))
      (pss_cons (ps_for PassesOwn.never rfl (pi_range1 (by rfl) T.range (pa_cons (pe_df (E := E0) dt hr (by rfl) (pa_cons (pv 0) (pa_cons (pv 2) pa_nil))) pa_nil)) (pg_name (i := 4) scStartL.nd rfl (Or.inl rfl)) (pss_cut (ps_set (i := 5) scStartL.nd rfl (Or.inl rfl) (pe_op op_catA (pe_ix ix_lst (pv 3) (pe_df (E := E0) dt hr (by rfl) (pa_cons (pv 0) (pa_cons (pe_callB call_len_seq (by rfl) T.len PySem.boot_len (pa_cons (pv 3) pa_nil)) pa_nil))) (fun _ _ => rfl)) (pe_tup (pa_cons (pe_ix ix_lst (pv 1) (pe_df (E := E0) dt hr (by rfl) (pa_cons (pv 0) (pa_cons (pe_callB call_len_seq (by rfl) T.len PySem.boot_len (pa_cons (pv 1) pa_nil)) pa_nil))) (fun _ _ => rfl)) pa_nil))))
      (pss_one (ps_if (PW.pt (pw_and (pt_cmpR (op_notInD (u65 hr)) (pv 5) (pv 3) (by rfl)) (pw_and1 (pt_cmpR op_lt (pe_callB call_len_seq (by rfl) T.len PySem.boot_len (pa_cons (pv 5) pa_nil)) pe_int (nomark _))))) (pss_one (ps_expr (pe_bm PySem.F.plainAttrs_list PySem.F.slot_list_append PySem.F.type_list_append mt_append (pv 3) (pa_cons (pv 5) pa_nil)))) pss_nil))))
      (pss_one (ps_ret (pe_lc (own := [("_law_path_here", 5)]) (g := gName 5) (by rfl) scStartL.nd (pi_list (pe_callB (cr_sortPaths hr.units) (by rfl) T.sorted (by decide +kernel) (pa_cons (pv 3) pa_nil))) (blkOk_by (own := [("_law_path_here", 5)]) (N := ["_law_box_here", "_law_names_here", "_law_upto", "_law_paths_here", "_law_turn", "_law_path_here"]) (sc := defScope sStartL) (by decide +kernel)) (fun _ _ _ _ _ => (pg_name (i := 5) scStartL.nd rfl (Or.inl rfl))) (fun _ _ _ _ _ => pts_nil) (fun _ _ _ _ _ => (pe_tup (pa_cons (pv 5) (pa_cons (pe_op op_sub (pe_df (E := E0) dt hr (by rfl) (pa_cons (pv 0) (pa_cons pe_int pa_nil))) pe_int) (pa_cons (pe_ix ix_lst (pv 1) (pe_df (E := E0) dt hr (by rfl) (pa_cons (pv 0) (pa_cons pe_int pa_nil))) (fun _ _ => rfl)) pa_nil)))))))))), ?_⟩
    refine ⟨(by show 0 ≤ sizeLine; decide), fun e0 n0 => ?_⟩
    have s0 := same_upd (o := .tup []) n0
    have ee0 : (upd H e0 (.tup [])) e0 = some (.tup []) := upd_same
    generalize (upd H e0 (.tup [])) = H1 at s0 ee0 ⊢
    refine ⟨(by show 1 ≤ sizeLine; decide), fun L nL => ?_⟩
    have s1 := same_upd (o := .lst [.ref e0]) nL
    have eL1 : (upd H1 L (.lst [.ref e0])) L = some (.lst [.ref e0]) := upd_same
    generalize (upd H1 L (.lst [.ref e0])) = H2 at s1 eL1 ⊢
    have s02 : Same H H2 := fun b o z => s1 b o (s0 b o z)
    have nLH : H L = none := by
      cases hz : H L with
      | none => rfl
      | some o => rw [s0 _ _ hz] at nL; cases nL
    have nLp : L ≠ p := hb.ne nLH
    have nLN : L ≠ N := fun z => by rw [z, hN] at nLH; cases nLH
    have b2 := hb.same s02
    refine ⟨_, rfl, _, rfl, p, uu, rfl, b2, by omega, by omega, fun r H3 s3 b3 r0 r8 => ?_⟩
    refine ⟨r, rfl, by omega, by omega, for_range (lo := 0) (fun i σ H' => ∃ (us : List V) (qs : List (List Str)) (t4 t5 : Option V), σ = [some (.ref p), some (.ref N), some (.int uu), some (.ref L), t4, t5] ∧ SameBut p H H' ∧ Box H' p ∧ H' L = some (.lst us) ∧ PathsAt H' us qs ∧ Pl qs ∧ qs.length ≤ i + 1) ⟨[.ref e0], [[]], _, _, rfl, fun b o nb z => s3 b o nb (s02 b o z), b3, s3 _ _ nLp eL1, ?_, ⟨by simp, rfl, by simp, by simp⟩, Nat.le_refl _⟩ ?_ ?_⟩
    · have ne0 : e0 ≠ p := hb.ne n0
      exact .cons ⟨e0, rfl, s3 _ _ ne0 (s1 _ _ ee0)⟩ .nil
    · rintro i σ H4 hi ⟨us, qs, t4, t5, rfl, sb, b4, eL, hP, hQ, hl⟩
      have ul := hP.len
      have qpos : 0 < qs.length := by
        cases qs with
        | nil => cases hQ.hd
        | cons _ _ => exact Nat.succ_pos _
      have q60 : qs.length ≤ 16 := by omega
      refine ⟨fun σ' H' => ∃ (pn : Addr) (q0 : List Str) (nm : Str), q0 ∈ qs ∧ nameB nm = true ∧ σ' = [some (.ref p), some (.ref N), some (.int uu), some (.ref L), some (.int (0 + (i : Nat))), some (.ref pn)] ∧ SameBut p H4 H' ∧ Box H' p ∧ H' pn = some (.tup ((q0 ++ [nm]).map V.str)), ?_, ?_⟩
      · refine ⟨_, rfl, _, rfl, _, rfl, L, _, rfl, .inl (SqL.of eL), p, _, rfl, b4, by omega, by omega, fun k1 H5 s5 b5 k10 k11 => ?_⟩
        have eL5 := s5 _ _ nLp eL
        have hP5 := hP.kp (b4.kp s5)
        have hk1 : k1.toNat < qs.length := by omega
        obtain ⟨v, hv, pa, rfl, epa⟩ := hP5.at (List.getElem?_eq_getElem hk1)
        refine ⟨L, us, k1, .ref pa, rfl, rfl, eL5, ?_, ?_⟩
        · unfold atI ixN
          rw [if_pos k10, if_pos (by omega)]
          exact hv
        have eN4 : H4 N = some (.lst (ns.map V.str)) := sb _ _ nNp hN
        have eN5 := s5 _ _ nNp eN4
        refine ⟨_, rfl, _, rfl, _, rfl, N, _, rfl, .inl (SqL.of eN5), ?_⟩
        rw [List.length_map, hn4]
        refine ⟨p, _, rfl, b5, by decide, by decide, fun k2 H6 s6 b6 k20 k21 => ?_⟩
        have hk2 : k2.toNat < ns.length := by omega
        have eN6 := s6 _ _ nNp eN5
        have hat := atI_strs hk2
        rw [show ((k2.toNat : Nat) : Int) = k2 by omega] at hat
        refine ⟨N, _, k2, _, rfl, rfl, eN6, hat, ?_⟩
        have hq0 : qs[k1.toNat] ∈ qs := List.getElem_mem hk1
        have hnm : nameB ns[k2.toNat] = true := hnB _ (List.getElem_mem hk2)
        have epa6 := (b5.kp s6) _ _ (fun _ z => by cases z) epa
        generalize qs[k1.toNat] = q0 at hq0 epa6
        generalize ns[k2.toNat] = nm at hnm ⊢
        refine ⟨(by show 1 ≤ sizeLine; decide), fun tn ntn => ?_⟩
        have s7 := same_upd (o := .tup [.str nm]) ntn
        have e7 : (upd H6 tn (.tup [.str nm])) tn = some (.tup [.str nm]) := upd_same
        generalize (upd H6 tn (.tup [.str nm])) = H7 at s7 e7 ⊢
        have sb47 : SameBut p H4 H7 := fun b o nb z => s7 b o (s6 b o nb (s5 b o nb z))
        refine ⟨pa, tn, q0.map V.str, [.str nm], rfl, rfl, SqT.of (s7 _ _ epa6), SqT.of e7, ?_, fun hx => ?_, (fun _ hy => nomatch hy), fun _ _ p1 np1 => ?_⟩
        · rw [List.length_map]
          have := (hQ.sh q0 hq0).1
          exact Nat.le_trans (show q0.length + 1 ≤ 4 by omega) (by decide)
        · have hx2 : q0 = [] := by
            cases q0 with
            | nil => rfl
            | cons _ _ => cases hx
          subst hx2
          exact ⟨tn, [], nm, hq0, hnm, rfl, sb47, b6.same s7, e7⟩
        · have s8 := same_upd (o := .tup (q0.map V.str ++ [.str nm])) np1
          refine ⟨p1, q0, nm, hq0, hnm, rfl, fun b o nb z => s8 b o (sb47 b o nb z), (b6.same s7).same s8, ?_⟩
          rw [upd_same, List.map_append]
          rfl
      rintro σ' H5 ⟨pn, q0, nm, hq0, hnm, rfl, s5, b5, e5⟩
      have eL5 := s5 _ _ nLp eL
      have hP5 := hP.kp (b4.kp s5)
      have sb5 : SameBut p H H5 := fun b o nb z => s5 b o nb (sb b o nb z)
      have a7q : ∀ ps ∈ qs, ∀ n ∈ ps, A7 n := fun ps hps n hn => name_a7 ((hQ.sh ps hps).2 n hn)
      have a7p : ∀ n ∈ q0 ++ [nm], A7 n := fun n hn => by
        rcases List.mem_append.mp hn with hn | hn
        · exact a7q q0 hq0 n hn
        · rw [List.mem_singleton.mp hn]
          exact name_a7 hnm
      refine ⟨_, rfl, _, rfl, pathD (q0 ++ [nm]), qs.map pathD, .tup (SqT.of e5) (dp_strs _), .lst (SqL.of eL5) hP5.dp, shaped_path a7p, shaped_paths a7q, _, rfl, ?_⟩
      rw [any_path]
      by_cases hin : q0 ++ [nm] ∈ qs
      · rw [decide_eq_true hin]
        exact ⟨us, qs, _, _, rfl, sb5, b5, eL5, hP5, hQ, by omega⟩
      · rw [decide_eq_false hin]
        refine ⟨_, rfl, pn, _, rfl, .inr (SqT.of e5), _, _, rfl, rfl, _, rfl, ?_⟩
        rw [List.length_map]
        refine ite2 (fun hlt => ?_) (fun hlt => ?_)
        · have hl4 : (q0 ++ [nm]).length ≤ 3 := by
            have := of_decide_eq_true hlt
            omega
          refine ⟨_, rfl, .inl ⟨rfl, _, SqL.of eL5⟩, _, rfl, L, us, _, rfl, rfl, eL5, ?_, ?_⟩
          · rw [ul]
            exact Nat.lt_of_le_of_lt q60 (by decide)
          have kx : Kp H5 (upd H5 L (.lst (us ++ [.ref pn]))) := fun b o n z => by
            rw [upd_ne (fun e => by rw [e, eL5] at z; exact n _ (Option.some.inj z).symm)]
            exact z
          refine ⟨us ++ [.ref pn], qs ++ [q0 ++ [nm]], _, _, rfl, fun b o nb z => ?_, ?_, upd_same, (hP5.kp kx).snoc ⟨pn, rfl, kx _ _ (fun _ z => by cases z) e5⟩, hQ.more hq0 hnm hin hl4, by rw [List.length_append, List.length_singleton]; omega⟩
          · rw [upd_ne (ne_of_none z nLH)]
            exact sb5 b o nb z
          · obtain ⟨x0, x1, x2, ex, rx⟩ := b5
            exact ⟨x0, x1, x2, by rw [upd_ne nLp.symm]; exact ex, rx⟩
        · exact ⟨us, qs, _, _, rfl, sb5, b5, eL5, hP5, hQ, by omega⟩
    · rintro σ H4 ⟨us, qs, t4, t5, rfl, sb, b4, eL, hP, hQ, hl⟩
      have q8 : qs.length ≤ 16 := by omega
      refine ⟨_, rfl, L, us, qs, rfl, SqL.of eL, hP, hQ.hd, fun ys S hY nS => ?_⟩
      have s5 := same_upd (o := .lst ys) nS
      have eS : (upd H4 S (.lst ys)) S = some (.lst ys) := upd_same
      have hY5 := hY.kp (Same.kp s5)
      have nSp : S ≠ p := b4.ne nS
      have b5 := b4.same s5
      generalize (upd H4 S (.lst ys)) = H5 at s5 eS hY5 b5 ⊢
      have sb5 : SameBut p H H5 := fun b o nb z => s5 b o (sb b o nb z)
      have hlen : (qs.mergeSort pathLe).length = qs.length := (List.mergeSort_perm qs pathLe).length_eq
      refine ⟨S, rfl, ⟨_, SqL.of eS⟩, fun D nD => lc_list (xs := ys) (fun i H' => SameBut p H5 H' ∧ Box H' p ∧ ∃ (rvs : List V) (rs : List Rw), H' D = some (.lst rvs) ∧ RowsAt H' rvs rs ∧ rs.map (·.1) = (qs.mergeSort pathLe).take i ∧ ∀ r ∈ rs, -4 ≤ r.2.1 ∧ r.2.1 ≤ 8 ∧ nameB r.2.2 = true) ?_ ?_ ?_ ?_⟩
      · have sd := same_upd (o := .lst []) nD
        exact ⟨Cor.Same.but sd, b5.same sd, [], [], upd_same, .nil, rfl, fun r hr => nomatch hr⟩
      · rintro i H' _ ⟨sx, _⟩
        exact SqL.of (sx _ _ nSp eS)
      · rintro i v H6 hv ⟨sx, b6, rvs, rs, eD, hR, hm, hw⟩
        have nDp : D ≠ p := b5.ne nD
        obtain ⟨q0, hq0, pa, rfl, epa⟩ : ∃ q0, (qs.mergeSort pathLe)[i]? = some q0 ∧ PathAt H5 v q0 := by
          have hi : i < (qs.mergeSort pathLe).length := by
            rw [← hY.len]
            exact (List.getElem?_eq_some_iff.mp hv).1
          obtain ⟨v', hv', h'⟩ := hY5.at (List.getElem?_eq_getElem hi)
          rw [hv] at hv'
          cases hv'
          exact ⟨_, List.getElem?_eq_getElem hi, h'⟩
        refine ⟨rfl, _, rfl, _, rfl, p, 13, rfl, b6, by decide, by decide, fun k1 H7 s7 b7 k10 k11 => ⟨_, _, rfl, rfl, _, rfl, _, rfl, p, 2, rfl, b7, by decide, by decide, fun k2 H8 s8 b8 k20 k21 => ?_⟩⟩
        have hk2 : k2.toNat < ns.length := by omega
        have eN8 : H8 N = some (.lst (ns.map V.str)) := s8 _ _ nNp (s7 _ _ nNp (sx _ _ nNp (sb5 _ _ nNp hN)))
        have hat := atI_strs hk2
        rw [show ((k2.toNat : Nat) : Int) = k2 by omega] at hat
        refine ⟨N, _, k2, _, rfl, rfl, eN8, hat, (by show 3 ≤ sizeLine; decide), fun t nt => ?_⟩
        have hnm : nameB ns[k2.toNat] = true := hnB _ (List.getElem_mem hk2)
        generalize ns[k2.toNat] = nm at hnm ⊢
        have s9 := same_upd (o := .tup [.ref pa, .int (k1 - 4), .str nm]) nt
        have e9 : (upd H8 t (.tup [.ref pa, .int (k1 - 4), .str nm])) t = some (.tup [.ref pa, .int (k1 - 4), .str nm]) := upd_same
        generalize (upd H8 t (.tup [.ref pa, .int (k1 - 4), .str nm])) = H9 at s9 e9 ⊢
        have s69 : SameBut p H6 H9 := fun b o nb z => s9 b o (s8 b o nb (s7 b o nb z))
        have eD9 := s69 _ _ nDp eD
        have epa9 := s69 _ _ (fun z => by obtain ⟨_, _, _, e, _⟩ := b5; rw [z, e] at epa; cases epa) (sx _ _ (fun z => by obtain ⟨_, _, _, e, _⟩ := b5; rw [z, e] at epa; cases epa) epa)
        have hR9 := hR.kp (b6.kp s69)
        have hlr : rs.length ≤ 16 := by
          have := congrArg List.length hm
          rw [List.length_map, List.length_take] at this
          omega
        have kx : Kp H9 (upd H9 D (.lst (rvs ++ [.ref t]))) := fun b o n z => by
          rw [upd_ne (fun e => by rw [e, eD9] at z; exact n _ (Option.some.inj z).symm)]
          exact z
        refine ⟨rvs, eD9, ?_, fun b o nb z => ?_, ?_, rvs ++ [.ref t], rs ++ [(q0, k1 - 4, nm)], upd_same, (hR9.kp kx).snoc ⟨t, pa, rfl, kx _ _ (fun _ z => by cases z) e9, kx _ _ (fun _ z => by cases z) epa9⟩, ?_, fun r hr => ?_⟩
        · rw [hR.len]
          exact Nat.lt_of_le_of_lt hlr (by decide)
        · rw [upd_ne (ne_of_none z nD)]
          exact s69 b o nb (sx b o nb z)
        · obtain ⟨x0, x1, x2, ex, rx⟩ := b8.same s9
          exact ⟨x0, x1, x2, by rw [upd_ne nDp.symm]; exact ex, rx⟩
        · rw [List.map_append, hm, List.take_succ, hq0]
          rfl
        · rcases List.mem_append.mp hr with hr | hr
          · exact hw r hr
          · rw [List.mem_singleton.mp hr]
            exact ⟨by show (-4 : Int) ≤ k1 - 4; omega, by show k1 - 4 ≤ 8; omega, hnm⟩
      · rintro H6 ⟨sx, b6, rvs, rs, eD, hR, hm, hw⟩
        rw [hY.len, List.take_length] at hm
        have hlr := congrArg List.length hm
        rw [List.length_map, hlen] at hlr
        have h0 : ([] : List Str) ∈ qs := by
          cases qs with
          | nil => cases hQ.hd
          | cons a _ =>
            have := Option.some.inj hQ.hd
            rw [← this]
            exact List.mem_cons_self
        refine q D rvs rs H6 (fun b o nb z => sx b o nb (sb5 b o nb z)) b6 eD hR ⟨sorted_good hQ.nd h0 hQ.up hm, fun z => ?_, by omega, fun r hr => ?_⟩
        · rw [z, List.length_nil] at hlr
          rw [List.length_eq_zero_iff.mp hlr.symm] at h0
          cases h0
        · have hr1 : r.1 ∈ qs.mergeSort pathLe := by rw [← hm]; exact List.mem_map.mpr ⟨r, hr, rfl⟩
          obtain ⟨h1, h2⟩ := hQ.sh _ ((List.mergeSort_perm qs pathLe).mem_iff.mp hr1)
          obtain ⟨w1, w2, w3⟩ := hw r hr
          refine ⟨by omega, h2, ?_, w3⟩
          exact Nat.lt_of_le_of_lt (show r.2.1.natAbs ≤ 8 by omega) (by decide)
theorem ok_lTextN {f : Addr} {fd : FuncData} (F : Fun K "_law_start_text" "_law_start_text" sLText f fd) (T : GloP K mg) (dp : Df P w K mg base "_law_path" 1 ["_law_path_here"] spPathText) : FnOk P w K mg base CX0 2 f fd ["_law_rows"] spLTextN := by
  refine F.ok scLText (k := 1) (fun vs H Q E h => ?_) (fun cdv A outer s H vs Q E hr h => ?_)
  · obtain ⟨L, us, rs, rfl, _⟩ := h
    rfl
  · obtain ⟨L, us, rs, rfl, eL, hR, hd, q⟩ := h
    refine ⟨_, (pss_one (ps_ret (pe_join pe_str (pe_lc (own := [("_law_path_here", 1), ("_law_worth", 2), ("_law_house", 3)]) (g := gTup K 3 (gCons (gName 1) (gCons (gName 2) (gCons (gName 3) gNil)))) (by rfl) scLText.nd (pi_list (pv 0)) (blkOk_by (own := [("_law_path_here", 1), ("_law_worth", 2), ("_law_house", 3)]) (N := ["_law_rows", "_law_path_here", "_law_worth", "_law_house"]) (sc := defScope sLText) (by decide +kernel)) (fun _ _ _ _ _ => (pg_tup (n := 3) rfl (pgs_cons (pg_name (i := 1) scLText.nd rfl (Or.inl rfl)) (pgs_cons (pg_name (i := 2) scLText.nd rfl (Or.inl rfl)) (pgs_cons (pg_name (i := 3) scLText.nd rfl (Or.inl rfl)) pgs_nil))))) (fun _ _ _ _ _ => pts_nil) (fun _ _ _ _ _ => (pe_op op_add_str (pe_op op_add_str (pe_op op_add_str (pe_op op_add_str (pe_df (E := E0) dp hr (by rfl) (pa_cons (pv 1) pa_nil)) pe_str) (pe_callTy call_str_int (by rfl) T.str (by decide +kernel) (pa_cons (pv 2) pa_nil))) pe_str) (pv 3))))))), ?_⟩
    refine ⟨⟨_, rfl⟩, _, rfl, L, rfl, ⟨_, SqL.of eL⟩, fun D nD => lc_list (xs := us) (fun i H' => Same H H' ∧ H' D = some (.lst (((rs.take i).map rowText).map V.str))) ?_ ?_ ?_ ?_⟩
    · exact ⟨same_upd nD, upd_same⟩
    · rintro i H' _ ⟨sx, _⟩
      exact SqL.of (sx _ _ eL)
    · rintro i v H2 hv ⟨sx, eD⟩
      obtain ⟨r, hr', t, pa, rfl, et, epa⟩ := hR.get hv
      have dr := hd.row r (List.mem_of_getElem? hr')
      have l100 := dr.len
      have shp : Short r.1 := ⟨Nat.le_trans dr.l9 (by decide), fun n hn => name_len (dr.ns n hn)⟩
      have all : (Str.empty ++ pathText r.1 ++ " " ++ Str.ofString (toString r.2.1) ++ " at " ++ r.2.2 : Str).length ≤ sizeLine := Nat.le_trans l100 (by decide)
      rw [Str.empty_append] at all
      have pre : ∀ {a b : Str}, (a ++ b).length ≤ sizeLine → a.length ≤ sizeLine := fun {a b} z => by rw [Str.length_append] at z; omega
      have app : ∀ {a b : Str}, (a ++ b).length ≤ sizeLine → a.length + b.length ≤ sizeLine := fun {a b} z => by rw [Str.length_append] at z; exact z
      have hlog : r.2.1.natAbs.log2 < 1920 := log_20 dr.nu
      refine ⟨t, _, rfl, SqT.of (sx _ _ et), rfl, _, _, rfl, _, _, rfl, _, _, rfl, rfl, rfl, ?_⟩
      refine ⟨_, rfl, pa, r.1, rfl, sx _ _ epa, shp, _, _, rfl, rfl, app (pre (pre (pre all))), _, rfl, _, rfl, hlog, _, _, rfl, rfl, app (pre (pre all)), _, _, rfl, rfl, app (pre all), _, rfl, _, _, rfl, rfl, app all, _, eD, ?_, fun b o z => ?_, ?_⟩
      · rw [List.length_map, List.length_map, List.length_take]
        exact Nat.lt_of_le_of_lt (Nat.le_trans (Nat.min_le_right _ _) hd.n16) (by decide)
      · rw [upd_ne (ne_of_none z nD)]
        exact sx b o z
      · rw [upd_same, List.take_succ, hr', List.map_append, List.map_append]
        show some (HO.lst (_ ++ [V.str (pathText r.1 ++ " " ++ Str.ofString (toString r.2.1) ++ " at " ++ r.2.2)])) = some (HO.lst (_ ++ [V.str (Str.empty ++ pathText r.1 ++ " " ++ Str.ofString (toString r.2.1) ++ " at " ++ r.2.2)]))
        rw [Str.empty_append]
    · rintro H2 ⟨sx, eD⟩
      rw [hR.len, List.take_length] at eD
      refine ⟨"\n", D, rs.map rowText, rfl, rfl, .inl (SqL.of eD), ?_, q H2 sx⟩
      have hs := sum_len (p := rs.map rowText) (B := 100) fun n hn => by
        obtain ⟨r, hr, rfl⟩ := List.mem_map.mp hn
        exact (hd.row r hr).len
      have l1 : Str.length (Str.ofString "\n") = 1 := by decide +kernel
      rw [l1]
      have := hd.n16
      rw [List.length_map] at hs ⊢
      omega
end
end Law

set_option Elab.async false
set_option linter.all false
set_option maxRecDepth 100000
set_option maxHeartbeats 1000000
namespace Law
open PySem PySem.Spec PyProof.Rows L2 Cor
/-! ### rooms one below another -/
abbrev sDeep : Stmt := topS 35
theorem scDeep : FnScope ["_law_box_here", "_law_names_here", "_law_rows", "_law_path_here", "_law_turn", "_law_worth"] ["_law_box_here", "_law_names_here"] (defScope sDeep) := ⟨rfl, rfl, rfl, by decide +kernel, rfl, by decide +kernel, by decide +kernel⟩
def spDeep : Sp := fun vs H Q _ => ∃ (p N : Addr) (ns : List Str), vs = [.ref p, .ref N] ∧ Box H p ∧ H N = some (.lst (ns.map V.str)) ∧ N ≠ p ∧ ns.length = 4 ∧ (∀ n ∈ ns, nameB n = true) ∧
  ∀ (L : Addr) (us : List V) (rs : List Rw) (H' : Hp), SameBut p H H' → Box H' p → H' L = some (.lst us) → RowsAt H' us rs → Beg rs → Q (.ref L) H'
/-- the rows by now, and the path of the next one -/
structure Dp9 (rs : List Rw) (q : List Str) : Prop where
  good : Good rs
  row : ∀ r ∈ rs, BegR r
  len : q.length = rs.length
  names : ∀ n ∈ q, nameB n = true
  last : ∀ l, rs.getLast? = some l → q.dropLast = l.1
theorem ahead_drop (q : List Str) (h : q ≠ []) : pathLe q q.dropLast = false := drop_ahead q h
theorem Dp9.fits {rs : List Rw} {q : List Str} (h : Dp9 rs q) (w : Int) (n : Str) : fits rs (q, w, n) := by
  refine ⟨⟨fun z => ?_, fun z => ?_⟩, fun l hl => ?_⟩
  · have hz : q = [] := z
    have := h.len
    rw [hz] at this
    exact List.length_eq_zero_iff.mp this.symm
  · have := h.len
    rw [z] at this
    exact List.length_eq_zero_iff.mp this
  · have e := h.last l hl
    have qne : q ≠ [] := fun z => by
      have hlen := h.len
      rw [z] at hlen
      have hr := List.length_eq_zero_iff.mp hlen.symm
      rw [hr] at hl
      cases hl
    refine ⟨?_, ?_⟩
    · show pathLe q l.1 = false
      rw [← e]
      exact drop_ahead q qne
    · show q.dropLast ∈ _
      rw [e]
      exact List.mem_map.mpr ⟨l, List.mem_of_getLast? hl, rfl⟩
theorem Dp9.more {rs : List Rw} {q : List Str} {w : Int} {n m : Str} (h : Dp9 rs q) (l9 : q.length ≤ 9) (hw : w.natAbs < 10 ^ 20) (hn : nameB n = true) (hm : nameB m = true) : Dp9 (rs ++ [(q, w, n)]) (q ++ [m]) := by
  refine ⟨h.good.snoc (h.fits w n), fun r hr => ?_, by rw [List.length_append, List.length_append, h.len]; rfl, fun x hx => ?_, fun l hl => ?_⟩
  · rcases List.mem_append.mp hr with hr | hr
    · exact h.row r hr
    · rw [List.mem_singleton.mp hr]
      exact ⟨l9, h.names, hw, hn⟩
  · rcases List.mem_append.mp hx with hx | hx
    · exact h.names x hx
    · rw [List.mem_singleton.mp hx]
      exact hm
  · rw [List.getLast?_concat] at hl
    cases hl
    exact List.dropLast_concat
section
variable {P : Program} {w : World} {K : PySem.W.Frag} {mg : Str → Option Value} {base : Heap}
theorem ok_deep {f : Addr} {fd : FuncData} (F : Fun K "_law_deep_rows" "_law_deep_rows" sDeep f fd) (T : GloP K mg) (dt : Df P w K mg base "_law_take" 1 ["_law_box_here", "_law_many"] spTk) : FnOk P w K mg base CX0 2 f fd ["_law_box_here", "_law_names_here"] spDeep := by
  refine F.ok scDeep (k := 1) (fun vs H Q E h => ?_) (fun cdv A outer s H vs Q E hr h => ?_)
  · obtain ⟨p, N, ns, rfl, _⟩ := h
    rfl
  · obtain ⟨p, N, ns, rfl, hb, hN, nNp, hn4, hnB, q⟩ := h
    refine ⟨_, (pss_cons (ps_par (i := 2) (j := 3) (by rfl) scDeep.nd rfl rfl (by decide) rfl rfl (pa_cons (pe_lst pa_nil) (pa_cons (pe_tup pa_nil) pa_nil)) (by rfl))
      (pss_cons (ps_for PassesOwn.never rfl (pi_range1 (by rfl) T.range (pa_cons (pe_op op_add pe_int (pe_df (E := E0) dt hr (by rfl) (pa_cons (pv 0) (pa_cons pe_int pa_nil)))) pa_nil)) (pg_name (i := 4) scDeep.nd rfl (Or.inl rfl)) (pss_cons (ps_set (i := 5) scDeep.nd rfl (Or.inl rfl) (pe_op op_mul (pe_df (E := E0) dt hr (by rfl) (pa_cons (pv 0) (pa_cons (pe_op op_pow pe_int pe_int) pa_nil))) (pe_ix ix_lst (pe_lst (pa_cons pe_int (pa_cons (pe_op op_sub pe_int pe_int) pa_nil))) (pe_df (E := E0) dt hr (by rfl) (pa_cons (pv 0) (pa_cons pe_int pa_nil))) (fun _ _ => rfl))))
      (pss_cons (ps_expr (pe_bm PySem.F.plainAttrs_list PySem.F.slot_list_append PySem.F.type_list_append mt_append (pv 2) (pa_cons (pe_tup (pa_cons (pv 3) (pa_cons (pv 5) (pa_cons (pe_ix ix_lst (pv 1) (pe_df (E := E0) dt hr (by rfl) (pa_cons (pv 0) (pa_cons (pe_callB call_len_seq (by rfl) T.len PySem.boot_len (pa_cons (pv 1) pa_nil)) pa_nil))) (fun _ _ => rfl)) pa_nil)))) pa_nil)))
      (pss_one (ps_set (i := 3) scDeep.nd rfl (Or.inl rfl) (pe_op op_catA (pv 3) (pe_tup (pa_cons (pe_ix ix_lst (pv 1) (pe_df (E := E0) dt hr (by rfl) (pa_cons (pv 0) (pa_cons (pe_callB call_len_seq (by rfl) T.len PySem.boot_len (pa_cons (pv 1) pa_nil)) pa_nil))) (fun _ _ => rfl)) pa_nil))))))))
      (pss_one (ps_ret (pv 2))))), ?_⟩
    refine ⟨(by show 0 ≤ sizeLine; decide), fun L nL => ?_⟩
    have s0 := same_upd (o := .lst []) nL
    have eL0 : (upd H L (.lst [])) L = some (.lst []) := upd_same
    generalize (upd H L (.lst [])) = H1 at s0 eL0 ⊢
    refine ⟨(by show 0 ≤ sizeLine; decide), fun e0 n0 => ?_⟩
    have s1 := same_upd (o := .tup []) n0
    have ee0 : (upd H1 e0 (.tup [])) e0 = some (.tup []) := upd_same
    generalize (upd H1 e0 (.tup [])) = H2 at s1 ee0 ⊢
    have s02 : Same H H2 := fun b o z => s1 b o (s0 b o z)
    have nLp : L ≠ p := hb.ne nL
    have b2 := hb.same s02
    refine ⟨_, _, rfl, ?_⟩
    refine ⟨_, rfl, p, 8, rfl, b2, by decide, by decide, fun r H3 s3 b3 r0 r8 => ⟨_, _, rfl, rfl, 2 + r, rfl, by omega, by omega, ?_⟩⟩
    have ne0p : e0 ≠ p := fun z => by
      have := (hb.same s0)
      obtain ⟨_, _, _, e, _⟩ := this
      rw [z, e] at n0
      cases n0
    refine for_range (lo := 0) (fun i σ H' => ∃ (us : List V) (rs : List Rw) (qq : List Str) (pa : Addr) (t4 t5 : Option V), σ = [some (.ref p), some (.ref N), some (.ref L), some (.ref pa), t4, t5] ∧ SameBut p H H' ∧ Box H' p ∧ H' L = some (.lst us) ∧ RowsAt H' us rs ∧ Dp9 rs qq ∧ H' pa = some (.tup (qq.map V.str)) ∧ rs.length = i)
      ⟨[], [], [], e0, _, _, rfl, fun b o nb z => s3 b o nb (s02 b o z), b3, s3 _ _ nLp (s1 _ _ eL0), .nil, ⟨Good.nil, (fun r hr => nomatch hr), rfl, (fun r hr => nomatch hr), fun l hl => by cases hl⟩, s3 _ _ ne0p ee0, rfl⟩ ?_ ?_
    · rintro i σ H4 hi ⟨us, rs, qq, pa, t4, t5, rfl, sb, b4, eL, hR, hD, epa, hlen⟩
      have i10 : i < 10 := by omega
      have q9 : qq.length ≤ 9 := by rw [hD.len]; omega
      have eN4 : H4 N = some (.lst (ns.map V.str)) := sb _ _ nNp hN
      have npa : pa ≠ p := fun z => by
        obtain ⟨_, _, _, e, _⟩ := b4
        rw [z, e] at epa
        cases epa
      refine ⟨_, rfl, _, _, rfl, rfl, ⟨by decide, by decide, by decide⟩, p, _, rfl, b4, by decide, by decide, fun k1 H5 s5 b5 k10 k11 => ?_⟩
      refine ⟨_, _, rfl, rfl, (by show 2 ≤ sizeLine; decide), fun l nl => ?_⟩
      have t5' := same_upd (o := .lst [.int 1, .int (0 - 1)]) nl
      have el : (upd H5 l (.lst [.int 1, .int (0 - 1)])) l = some (.lst [.int 1, .int (0 - 1)]) := upd_same
      have nlp : l ≠ p := b5.ne nl
      have b5' := b5.same t5'
      generalize (upd H5 l (.lst [.int 1, .int (0 - 1)])) = H6 at t5' el b5' ⊢
      refine ⟨_, rfl, p, 2, rfl, b5', by decide, by decide, fun k2 H7 s7 b7 k20 k21 => ?_⟩
      obtain ⟨sg, hsg, hat⟩ : ∃ sg : Int, (sg = 1 ∨ sg = -1) ∧ atI [V.int 1, V.int (0 - 1)] k2 = some (.int sg) := by
        rcases (show k2 = 0 ∨ k2 = 1 by omega) with z | z
        · exact ⟨1, .inl rfl, by rw [z]; rfl⟩
        · exact ⟨-1, .inr rfl, by rw [z]; rfl⟩
      refine ⟨l, _, k2, _, rfl, rfl, s7 _ _ nlp el, hat, _, _, rfl, rfl, .inr (by rcases hsg with rfl | rfl <;> exact ⟨by decide, by decide⟩), ?_⟩
      have hw : (k1 * sg).natAbs < 10 ^ 20 := by
        rw [Int.natAbs_mul]
        have : sg.natAbs = 1 := by rcases hsg with rfl | rfl <;> rfl
        rw [this, Nat.mul_one]
        have k11' : k1 < 10 ^ 20 := k11
        omega
      dsimp only
      generalize k1 * sg = wo at hw ⊢
      have s47 : SameBut p H4 H7 := fun b o nb z => s7 b o nb (t5' b o (s5 b o nb z))
      have eL7 := s47 _ _ nLp eL
      have eN7 := s47 _ _ nNp eN4
      refine ⟨_, rfl, .inl ⟨rfl, _, SqL.of eL7⟩, _, rfl, _, rfl, _, rfl, _, rfl, _, rfl, N, _, rfl, .inl (SqL.of eN7), ?_⟩
      rw [List.length_map, hn4]
      refine ⟨p, _, rfl, b7, by decide, by decide, fun k3 H8 s8 b8 k30 k31 => ?_⟩
      have hk3 : k3.toNat < ns.length := by omega
      have hat3 := atI_strs hk3
      rw [show ((k3.toNat : Nat) : Int) = k3 by omega] at hat3
      have hn3 : nameB ns[k3.toNat] = true := hnB _ (List.getElem_mem hk3)
      generalize ns[k3.toNat] = nm3 at hat3 hn3
      refine ⟨N, _, k3, _, rfl, rfl, s8 _ _ nNp eN7, hat3, (by show 3 ≤ sizeLine; decide), fun t nt => ?_⟩
      have t8 := same_upd (o := .tup [.ref pa, .int wo, .str nm3]) nt
      have e8 : (upd H8 t (.tup [.ref pa, .int wo, .str nm3])) t = some (.tup [.ref pa, .int wo, .str nm3]) := upd_same
      have b8' := b8.same t8
      generalize (upd H8 t (.tup [.ref pa, .int wo, .str nm3])) = H9 at t8 e8 b8' ⊢
      have s49 : SameBut p H4 H9 := fun b o nb z => t8 b o (s8 b o nb (s47 b o nb z))
      have eL9 := s49 _ _ nLp eL
      have epa9 := s49 _ _ npa epa
      have hR9 := hR.kp (b4.kp s49)
      have ul := hR.len
      refine ⟨L, us, _, rfl, rfl, eL9, ?_, ?_⟩
      · rw [ul, hlen]
        exact Nat.lt_of_lt_of_le i10 (by decide)
      have kx : Kp H9 (upd H9 L (.lst (us ++ [.ref t]))) := fun b o n z => by
        rw [upd_ne (fun e => by rw [e, eL9] at z; exact n _ (Option.some.inj z).symm)]
        exact z
      have eLx : (upd H9 L (.lst (us ++ [.ref t]))) L = some (.lst (us ++ [.ref t])) := upd_same
      have hRx : RowsAt (upd H9 L (.lst (us ++ [.ref t]))) (us ++ [.ref t]) (rs ++ [(qq, wo, nm3)]) := (hR9.kp kx).snoc ⟨t, pa, rfl, kx _ _ (fun _ z => by cases z) e8, kx _ _ (fun _ z => by cases z) epa9⟩
      have epax := kx _ _ (fun _ z => by cases z) epa9
      have bx : Box (upd H9 L (.lst (us ++ [.ref t]))) p := by
        obtain ⟨x0, x1, x2, ex, rx⟩ := b8'
        exact ⟨x0, x1, x2, by rw [upd_ne nLp.symm]; exact ex, rx⟩
      have sbx : SameBut p H (upd H9 L (.lst (us ++ [.ref t]))) := fun b o nb z => by
        rw [upd_ne (ne_of_none z nL)]
        exact s49 b o nb (sb b o nb z)
      generalize (upd H9 L (.lst (us ++ [.ref t]))) = Hx at eLx hRx epax bx sbx ⊢
      have eNx := sbx _ _ nNp hN
      refine ⟨_, rfl, _, rfl, _, rfl, _, rfl, N, _, rfl, .inl (SqL.of eNx), ?_⟩
      rw [List.length_map, hn4]
      refine ⟨p, _, rfl, bx, by decide, by decide, fun k4 Hy sy bY k40 k41 => ?_⟩
      have hk4 : k4.toNat < ns.length := by omega
      have hat4 := atI_strs hk4
      rw [show ((k4.toNat : Nat) : Int) = k4 by omega] at hat4
      have hn4' : nameB ns[k4.toNat] = true := hnB _ (List.getElem_mem hk4)
      generalize ns[k4.toNat] = nm4 at hat4 hn4'
      refine ⟨N, _, k4, _, rfl, rfl, sy _ _ nNp eNx, hat4, (by show 1 ≤ sizeLine; decide), fun tn ntn => ?_⟩
      have t9 := same_upd (o := .tup [.str nm4]) ntn
      have e9 : (upd Hy tn (.tup [.str nm4])) tn = some (.tup [.str nm4]) := upd_same
      have bz := bY.same t9
      generalize (upd Hy tn (.tup [.str nm4])) = Hz at t9 e9 bz ⊢
      have sxz : SameBut p Hx Hz := fun b o nb z => t9 b o (sy b o nb z)
      have hD' := hD.more (m := nm4) q9 hw hn3 hn4'
      have fin : ∀ (pn : Addr) (Hw : Hp), Same Hz Hw → Hw pn = some (.tup ((qq ++ [nm4]).map V.str)) → ∃ (us : List V) (rs : List Rw) (qq : List Str) (pa : Addr) (t4' t5' : Option V), [some (V.ref p), some (.ref N), some (.ref L), some (.ref pn), some (.int (0 + (i : Nat))), some (.int wo)] = [some (V.ref p), some (.ref N), some (.ref L), some (.ref pa), t4', t5'] ∧ SameBut p H Hw ∧ Box Hw p ∧ Hw L = some (.lst us) ∧ RowsAt Hw us rs ∧ Dp9 rs qq ∧ Hw pa = some (.tup (qq.map V.str)) ∧ rs.length = i + 1 := fun pn Hw sw ew => by
        refine ⟨us ++ [.ref t], rs ++ [(qq, wo, nm3)], qq ++ [nm4], pn, _, _, rfl, fun b o nb z => sw b o (sxz b o nb (sbx b o nb z)), bz.same sw, sw _ _ (sxz _ _ nLp eLx), (hRx.kp (bx.kp sxz)).kp (Same.kp sw), hD', ew, ?_⟩
        rw [List.length_append, List.length_singleton, hlen]
      refine ⟨pa, tn, qq.map V.str, [.str nm4], rfl, rfl, SqT.of (sxz _ _ npa epax), SqT.of e9, ?_, fun hx => ?_, (fun _ hy => nomatch hy), fun _ _ p1 np1 => ?_⟩
      · rw [List.length_map]
        exact Nat.le_trans (show qq.length + 1 ≤ 10 by omega) (by decide)
      · have hx2 : qq = [] := by
          cases qq with
          | nil => rfl
          | cons _ _ => cases hx
        subst hx2
        exact fin tn Hz (fun _ _ z => z) e9
      · refine fin p1 _ (same_upd np1) ?_
        rw [upd_same, List.map_append]
        rfl
    · rintro σ H4 ⟨us, rs, qq, pa, t4, t5, rfl, sb, b4, eL, hR, hD, epa, hlen⟩
      refine ⟨_, rfl, q L us rs H4 sb b4 eL hR ⟨hD.good, fun z => ?_, by omega, hD.row⟩⟩
      rw [z, List.length_nil] at hlen
      omega
end
end Law

set_option Elab.async false
set_option linter.all false
set_option maxRecDepth 100000
set_option maxHeartbeats 1000000
namespace Law
open PySem PySem.Spec PyProof.Rows L2 Cor
/-! ### the rooms of a beginning, as the law keeps them -/
/-- the list of a room stands -/
def ListAt (H : Hp) (CS : Unit) (c : Cell) : Prop := ∃ dx : Unit, H c.2.2.1 = some (.lst [.int c.1.2.1, .ref c.2.2.2, .str c.1.2.2])
def CellAtL (H : Hp) (CS : Unit) (ks : List Str) (c : Cell) : Prop := RoomT H c.2.1 c.1.1 ∧ ListAt H CS c ∧ ∃ kvs, H c.2.2.2 = some (.dK kvs) ∧ DoorsAt H c.1.1 kvs ks
structure StoreL (P : Program) (w : World) (CS : Unit) (H : Hp) (d : Addr) (cs : List Cell) : Prop where
  at_ : H d = some (DN P w d (cs.map entC)) ∨ (H d = some (.dK []) ∧ cs = [])
  cells : ∀ c ∈ cs, CellAtL H CS (kids c.1.1 (cs.map (·.1))) c
  nd : (cs.map (·.2.2.2)).Nodup
theorem CellAtL.same {H H' : Hp} (s : Same H H') {CS : Unit} {ks : List Str} {c : Cell} (h : CellAtL H CS ks c) : CellAtL H' CS ks c := by
  obtain ⟨h1, ⟨dx, h2⟩, kvs, h3, h4⟩ := h
  exact ⟨h1.kt (kt_same s), ⟨dx, s _ _ h2⟩, kvs, s _ _ h3, h4.kt (kt_same s)⟩
theorem StoreL.same {P : Program} {w : World} {CS : Unit} {H H' : Hp} {d : Addr} {cs : List Cell} (s : Same H H') (h : StoreL P w CS H d cs) : StoreL P w CS H' d cs :=
  ⟨h.at_.imp (fun e => s _ _ e) (fun e => ⟨s _ _ e.1, e.2⟩), fun c hc => (h.cells c hc).same s, h.nd⟩
theorem StoreL.keys {P : Program} {w : World} {CS : Unit} {H : Hp} {d : Addr} {cs : List Cell} (h : StoreL P w CS H d cs) : KeysN H (cs.map entC) := fun e he => by
  obtain ⟨c, hc, rfl⟩ := List.mem_map.mp he
  exact (h.cells c hc).1
/-- a new cell stands, its door is not told yet -/
structure StoreL1 (P : Program) (w : World) (CS : Unit) (H : Hp) (d : Addr) (cs : List Cell) (c : Cell) : Prop where
  at_ : H d = some (DN P w d ((cs ++ [c]).map entC))
  cells : ∀ e ∈ cs, CellAtL H CS (kids e.1.1 (cs.map (·.1))) e
  new : CellAtL H CS [] c
  nd : ((cs ++ [c]).map (·.2.2.2)).Nodup
theorem StoreL1.same {P : Program} {w : World} {CS : Unit} {H H' : Hp} {d : Addr} {cs : List Cell} {c : Cell} (s : Same H H') (h : StoreL1 P w CS H d cs c) : StoreL1 P w CS H' d cs c :=
  ⟨s _ _ h.at_, fun e he => (h.cells e he).same s, h.new.same s, h.nd⟩
theorem StoreL1.keys {P : Program} {w : World} {CS : Unit} {H : Hp} {d : Addr} {cs : List Cell} {c : Cell} (h : StoreL1 P w CS H d cs c) : KeysN H ((cs ++ [c]).map entC) := fun e he => by
  obtain ⟨x, hx, rfl⟩ := List.mem_map.mp he
  rcases List.mem_append.mp hx with hx | hx
  · exact (h.cells x hx).1
  · rw [List.mem_singleton.mp hx]
    exact h.new.1
/-- the first step: the spot is put in -/
theorem StoreL.put {P : Program} {w : World} {CS : Unit} {H : Hp} {d : Addr} {cs : List Cell} {c : Cell} (h : StoreL P w CS H d cs) (hr : RoomT H c.2.1 c.1.1) (hs : ListAt H CS c) (hd : H c.2.2.2 = some (.dK [])) (hnew : c.2.2.2 ∉ cs.map (·.2.2.2)) (hne : c.2.2.2 ≠ d) :
    StoreL1 P w CS (upd H d (DN P w d ((cs ++ [c]).map entC))) d cs c := by
  have kt : Kt H (upd H d (DN P w d ((cs ++ [c]).map entC))) := fun b xs e => by
    rw [upd_ne (fun z => by
      rw [z] at e
      rcases h.at_ with h1 | ⟨h1, _⟩ <;> rw [e] at h1 <;> cases h1)]
    exact e
  have ins : ∀ {b : Addr} {fs : List V}, H b = some (.lst fs) → (upd H d (DN P w d ((cs ++ [c]).map entC))) b = some (.lst fs) := fun {b fs} e => by
    rw [upd_ne (fun z => by
      rw [z] at e
      rcases h.at_ with h1 | ⟨h1, _⟩ <;> rw [e] at h1 <;> cases h1)]
    exact e
  refine ⟨upd_same, fun e he => ?_, ?_, ?_⟩
  · obtain ⟨h1, ⟨dx, h2⟩, kvs, h3, h4⟩ := h.cells e he
    refine ⟨h1.kt kt, ⟨dx, ins h2⟩, kvs, ?_, h4.kt kt⟩
    rw [upd_ne (fun z => ?_)]
    · exact h3
    · rw [z] at h3
      rcases h.at_ with h5 | ⟨_, h5⟩
      · rw [h5] at h3; cases h3
      · rw [h5] at he; cases he
  · obtain ⟨dx, h2⟩ := hs
    exact ⟨hr.kt kt, ⟨dx, ins h2⟩, [], (upd_ne hne).trans hd, .nil⟩
  · rw [List.map_append, List.nodup_append]
    refine ⟨h.nd, by simp, fun x hx y hy => ?_⟩
    rintro rfl
    have : x = c.2.2.2 := by simpa using hy
    rw [this] at hx
    exact hnew hx
theorem StoreL1.root {P : Program} {w : World} {CS : Unit} {H : Hp} {d : Addr} {cs : List Cell} {c : Cell} (h : StoreL1 P w CS H d cs c) (g : Good (cs.map (·.1))) (hf : fits (cs.map (·.1)) c.1) (hr : c.1.1 = []) : StoreL P w CS H d (cs ++ [c]) := by
  have hk : ∀ q, kidOf q c.1 = none := fun q => by unfold kidOf; rw [if_neg (fun z => z.1 hr)]
  refine ⟨.inl h.at_, fun e he => ?_, h.nd⟩
  rw [List.map_append]
  rcases List.mem_append.mp he with he | he
  · have := h.cells e he
    rw [show kids e.1.1 (cs.map (·.1) ++ [c].map (·.1)) = kids e.1.1 (cs.map (·.1)) from by
      rw [show [c].map (·.1) = [c.1] from rfl, kids_snoc, hk]; simp]
    exact this
  · rw [List.mem_singleton.mp he, show [c].map (·.1) = [c.1] from rfl, kids_new g hf]
    exact h.new
/-- the second step: the door of the room above -/
theorem StoreL1.door {P : Program} {w : World} {CS : Unit} {H : Hp} {d : Addr} {cs : List Cell} {c pc : Cell} {n : Str} {k : Addr} {kvs : List (L2.Key × V)} (h : StoreL1 P w CS H d cs c) (g : Good (cs.map (·.1))) (hf : fits (cs.map (·.1)) c.1) (hp : pc ∈ cs) (he : c.1.1 = pc.1.1 ++ [n]) (hk : RoomT H k c.1.1) (hkv : H pc.2.2.2 = some (.dK kvs)) :
    StoreL P w CS (upd H pc.2.2.2 (.dK (putK kvs (Sum.inr n) (.ref k)))) d (cs ++ [c]) := by
  obtain ⟨_, _, kvs', h3, h4⟩ := h.cells pc hp
  rw [hkv] at h3
  cases h3
  have fresh : n ∉ kids pc.1.1 (cs.map (·.1)) := fun z => by
    obtain ⟨a, ha, e⟩ := mem_kids z
    exact good_fresh g hf (by rw [he, ← e]; exact List.mem_map.mpr ⟨a, ha, rfl⟩)
  have eput : putK kvs (Sum.inr n) (.ref k) = kvs ++ [(Sum.inr n, .ref k)] := by
    unfold putK
    rw [if_neg]
    intro z
    obtain ⟨kv, hm, hq⟩ := List.any_eq_true.mp z
    have hm2 : kv.1 ∈ kvs.map (·.1) := List.mem_map.mpr ⟨kv, hm, rfl⟩
    rw [h4.keys, of_decide_eq_true hq] at hm2
    obtain ⟨m, hm3, e⟩ := List.mem_map.mp hm2
    cases e
    exact fresh hm3
  rw [eput]
  have kt : Kt H (upd H pc.2.2.2 (.dK (kvs ++ [(Sum.inr n, .ref k)]))) := fun b xs e => by
    rw [upd_ne (fun z => by rw [z, hkv] at e; cases e)]
    exact e
  have ins : ∀ {b : Addr} {fs : List V}, H b = some (.lst fs) → (upd H pc.2.2.2 (.dK (kvs ++ [(Sum.inr n, .ref k)]))) b = some (.lst fs) := fun {b fs} e => by
    rw [upd_ne (fun z => by rw [z, hkv] at e; cases e)]
    exact e
  have hne : c.1.1 ≠ [] := by rw [he]; simp
  have hk1 : kidOf pc.1.1 c.1 = some n := by
    unfold kidOf
    rw [if_pos ⟨hne, by rw [he, List.dropLast_concat]⟩, he]
    simp
  have hk2 : ∀ q, q ≠ pc.1.1 → kidOf q c.1 = none := fun q hq => by
    unfold kidOf
    rw [if_neg]
    rintro ⟨_, z⟩
    rw [he, List.dropLast_concat] at z
    exact hq z.symm
  have ndc : (cs.map (·.2.2.2)).Nodup := by
    have := h.nd
    rw [List.map_append, List.nodup_append] at this
    exact this.1
  have ndn : c.2.2.2 ∉ cs.map (·.2.2.2) := fun z => by
    have := h.nd
    rw [List.map_append, List.nodup_append] at this
    exact this.2.2 _ z _ (by simp) rfl
  refine ⟨.inl ?_, fun e hem => ?_, h.nd⟩
  · rw [upd_ne (fun z => by
      have := h.at_
      rw [z, hkv] at this
      cases this)]
    exact h.at_
  rw [List.map_append, show [c].map (·.1) = [c.1] from rfl]
  rcases List.mem_append.mp hem with hem | hem
  · obtain ⟨e1, ⟨dx, e2⟩, kv2, e3, e4⟩ := h.cells e hem
    by_cases hq : e.2.2.2 = pc.2.2.2
    · have epc : e = pc := by
        exact nodup_inj ndc hem hp hq
      subst epc
      rw [hkv] at e3
      cases e3
      refine ⟨e1.kt kt, ⟨dx, ins e2⟩, _, upd_same, ?_⟩
      rw [kids_snoc, hk1]
      exact (e4.kt kt).snoc ⟨rfl, k, rfl, by rw [← he]; exact hk.kt kt⟩
    · refine ⟨e1.kt kt, ⟨dx, ins e2⟩, kv2, (upd_ne hq).trans e3, ?_⟩
      by_cases hp2 : e.1.1 = pc.1.1
      · exfalso
        have ndp : (cs.map (fun c : Cell => c.1.1)).Nodup := by
          have := good_nodup g
          rw [List.map_map] at this
          exact this
        exact hq (by rw [nodup_inj ndp hem hp hp2])
      · rw [kids_snoc, hk2 _ hp2]
        simpa using e4.kt kt
  · rw [List.mem_singleton.mp hem, kids_new g hf]
    obtain ⟨e1, ⟨dx, e2⟩, kv2, e3, e4⟩ := h.new
    refine ⟨e1.kt kt, ⟨dx, ins e2⟩, kv2, ?_, e4.kt kt⟩
    rw [upd_ne (fun z => ndn (by rw [z]; exact List.mem_map.mpr ⟨pc, hp, rfl⟩))]
    exact e3
end Law

set_option Elab.async false
set_option linter.all false
set_option maxRecDepth 100000
set_option maxHeartbeats 1000000
namespace Law
open PySem PySem.Spec PyProof.Rows L2 Cor
abbrev sState : Stmt := topS 31
theorem scState : FnScope ["_law_rows", "_law_found", "_law_path_here", "_law_worth", "_law_house", "_law_below"] ["_law_rows"] (defScope sState) := ⟨rfl, rfl, rfl, by decide +kernel, rfl, by decide +kernel, by decide +kernel⟩
/-- the state of these rows stands at d -/
def StateAt (P : Program) (w : World) (H : Hp) (d : Addr) (rs : List Rw) : Prop := ∃ cs, StoreL P w () H d cs ∧ cs.map (·.1) = rs ∧ Good rs
theorem StateAt.same {P : Program} {w : World} {H H' : Hp} (s : Same H H') {d : Addr} {rs : List Rw} (h : StateAt P w H d rs) : StateAt P w H' d rs := let ⟨cs, h1, h2⟩ := h; ⟨cs, h1.same s, h2⟩
def spState (P : Program) (w : World) : Sp := fun vs H Q _ => ∃ (L : Addr) (us : List V) (rs : List Rw), vs = [.ref L] ∧ H L = some (.lst us) ∧ RowsAt H us rs ∧ Beg rs ∧ ∀ d H', Same H H' → StateAt P w H' d rs → Q (.ref d) H'
section
variable {P : Program} {w : World} {K : PySem.W.Frag} {mg : Str → Option Value} {base : Heap}
theorem ok_state {f : Addr} {fd : FuncData} (F : Fun K "_law_state" "_law_state" sState f fd) (T : GloP K mg) : FnOk P w K mg base CX0 1 f fd ["_law_rows"] (spState P w) := by
  refine F.ok scState (k := 0) (fun vs H Q E h => ?_) (fun cdv A outer s H vs Q E hr h => ?_)
  · obtain ⟨L, us, rs, rfl, _⟩ := h
    rfl
  · obtain ⟨L, us, rs, rfl, eL, hR, hB, qR⟩ := h
    have hu := hu_of hr
    have hu10 : (cxOf CX0 P w K mg base ["_law_rows", "_law_found", "_law_path_here", "_law_worth", "_law_house", "_law_below"] "_law_state" (defScope sState) f cdv A outer s H E).nox.A.units + 10 < cLine := by
      have := hr.units
      show (A.deeper _).units + 10 < cLine
      omega
    refine ⟨_, (pss_cons (ps_set (i := 1) scState.nd rfl (Or.inl rfl) pe_dnewK)
      (pss_cons (ps_for PassesOwn.never rfl (pi_list (pv 0)) (pg_tup rfl (pgs_cons (pg_name (i := 2) scState.nd rfl (Or.inl rfl)) (pgs_cons (pg_name (i := 3) scState.nd rfl (Or.inl rfl)) (pgs_cons (pg_name (i := 4) scState.nd rfl (Or.inl rfl)) pgs_nil)))) (pss_cut (ps_asg (pe_lst (pa_cons (pv 3) (pa_cons pe_dnewK (pa_cons (pv 4) pa_nil)))) (pg_sub (pv 1) (pe_tup (pa_cons pe_int (pa_cons (pv 2) pa_nil))) (set_N hu10)))
      (pss_one (ps_if (pt_cmpR (op_neD hr.units) (pv 2) (pe_tup pa_nil) (nomark _)) (pss_cons (ps_set (i := 5) scState.nd rfl (Or.inl rfl) (pe_ix ix_list (pe_getN hu10 (pv 1) (pe_tup (pa_cons pe_int (pa_cons (pe_slice sl_tupA (pv 2) po_none (po_some (pe_un un_neg pe_int))) pa_nil))) (fun _ _ => rfl)) pe_int (fun _ _ => rfl)))
      (pss_one (ps_asg (pe_tup (pa_cons pe_int (pa_cons (pv 2) pa_nil))) (pg_sub (pv 5) (pe_ix ix_tup (pv 2) (pe_op op_sub (pe_callB call_len_seq (by rfl) T.len PySem.boot_len (pa_cons (pv 2) pa_nil)) pe_int) (fun _ _ => rfl)) (set_dict hu))))) pss_nil))))
      (pss_one (ps_ret (pv 1))))), ?_⟩
    intro d nd
    have s1 := same_upd (o := .dK []) nd
    have good := hB.good
    have a7 : ∀ r ∈ rs, ∀ n ∈ r.1, A7 n := fun r hr n hn => name_a7 ((hB.row r hr).ns n hn)
    have ed1 : (upd H d (.dK [])) d = some (.dK []) := upd_same
    have eL1 := s1 _ _ eL
    have hR1 := hR.kp (Same.kp s1)
    generalize (upd H d (.dK [])) = H1 at s1 ed1 eL1 hR1 ⊢
    have ulen := hR.len
    have n16 := hB.n16
    refine ⟨_, rfl, L, rfl, ⟨_, SqL.of eL1⟩, for_list (xs := us) (fun i σ H' => ∃ (cs : List Cell) (t2 t3 t4 t5 : Option V), σ = [some (.ref L), some (.ref d), t2, t3, t4, t5] ∧ SameBut d H1 H' ∧ StoreL P w () H' d cs ∧ cs.map (·.1) = rs.take i ∧ ∀ c ∈ cs, H1 c.2.2.2 = none) ?_ ?_ ?_ ?_⟩
    · exact ⟨[], _, _, _, _, rfl, fun _ _ _ z => z, ⟨.inr ⟨ed1, rfl⟩, (fun c hc => nomatch hc), List.nodup_nil⟩, rfl, fun c hc => nomatch hc⟩
    · rintro i σ H' _ ⟨cs, _, _, _, _, _, sb, _⟩
      exact SqL.of (sb _ _ (fun z => by rw [z, ed1] at eL1; cases eL1) eL1)
    · rintro i v σ H2 hv ⟨cs, t2, t3, t4, t5, rfl, sb, st, hcs, hdd⟩
      obtain ⟨r, hr', t, pa, rfl, et, epa⟩ := hR1.get hv
      have tup2 : ∀ {b : Addr} {xs : List V}, H1 b = some (.tup xs) → H2 b = some (.tup xs) := fun {b xs} e => sb _ _ (fun z => by rw [z, ed1] at e; cases e) e
      have hfit : fits (cs.map (·.1)) r := by rw [hcs]; exact good i r hr'
      have hgood : Good (cs.map (·.1)) := by
        rw [hcs]
        intro j r' hj
        have hj2 : j < i := by
          have := (List.getElem?_eq_some_iff.mp hj).1
          rw [List.length_take] at this
          omega
        rw [List.getElem?_take_of_lt hj2] at hj
        rw [List.take_take, Nat.min_eq_left (Nat.le_of_lt hj2)]
        exact good j r' hj
      have ilt : i < rs.length := (List.getElem?_eq_some_iff.mp hr').1
      have clen : cs.length < sizeLine := by
        have := congrArg List.length hcs
        rw [List.length_map, List.length_take] at this
        exact Nat.lt_of_lt_of_le (show cs.length < 10002 by omega) (by decide)
      refine ⟨t, _, rfl, SqT.of (tup2 et), rfl, _, _, rfl, _, _, rfl, _, _, rfl, rfl, ?_⟩
      refine ⟨fun σ' H' => ∃ c : Cell, σ' = [some (.ref L), some (.ref d), some (.ref pa), some (.int r.2.1), some (.str r.2.2), t5] ∧ c.1 = r ∧ SameBut d H1 H' ∧ StoreL1 P w () H' d cs c ∧ H1 c.2.2.2 = none, ?_, ?_⟩
      · refine ⟨_, rfl, fun dd ndd => ?_⟩
        have u1 := same_upd (o := .dK []) ndd
        have ed2 : (upd H2 dd (.dK [])) dd = some (.dK []) := upd_same
        generalize (upd H2 dd (.dK [])) = H2' at u1 ed2 ⊢
        refine ⟨_, rfl, (by show 3 ≤ sizeLine; decide), fun sa nsa => ?_⟩
        have u2 := same_upd (o := .lst [.int r.2.1, .ref dd, .str r.2.2]) nsa
        have e1 : (upd H2' sa (.lst [.int r.2.1, .ref dd, .str r.2.2])) sa = some (.lst [.int r.2.1, .ref dd, .str r.2.2]) := upd_same
        have e2 := u2 _ _ ed2
        generalize (upd H2' sa (.lst [.int r.2.1, .ref dd, .str r.2.2])) = H3 at u2 e1 e2 ⊢
        have s23 : Same H2 H3 := fun b o z => u2 b o (u1 b o z)
        refine ⟨_, rfl, _, rfl, (by show 2 ≤ sizeLine; decide), fun k nk => ?_⟩
        have s34 := same_upd (o := .tup [.int 0, .ref pa]) nk
        have ek : (upd H3 k (.tup [.int 0, .ref pa])) k = some (.tup [.int 0, .ref pa]) := upd_same
        generalize (upd H3 k (.tup [.int 0, .ref pa])) = H4 at s34 ek ⊢
        have s24 : Same H2 H4 := fun b o z => s34 b o (s23 b o z)
        have st4 := st.same s24
        have room : RoomT H4 k r.1 := ⟨pa, ek, s24 _ _ (tup2 epa)⟩
        have nd1 : H1 dd = none := by
          cases hz : H1 dd with
          | none => rfl
          | some o =>
            by_cases hq : dd = d
            · rw [hq] at ndd
              rcases st.at_ with z | ⟨z, _⟩ <;> rw [ndd] at z <;> cases z
            · rw [sb _ _ hq hz] at ndd
              cases ndd
        have hed : dd ≠ d := fun z => by
          rw [z] at ndd
          rcases st.at_ with y | ⟨y, _⟩ <;> rw [ndd] at y <;> cases y
        refine ⟨d, k, sa, cs.map entC, r.1, rfl, rfl, rfl, ?_, st4.keys, room, ?_, by rw [List.length_map]; exact clen, ?_⟩
        · exact st4.at_.imp id (fun z => ⟨z.1, by rw [z.2]; rfl⟩)
        · have := good_fresh hgood hfit
          rw [List.map_map]
          rw [List.map_map] at this
          exact this
        refine ⟨(r, k, sa, dd), rfl, rfl, fun b o nb z => ?_, ?_, nd1⟩
        · rw [upd_ne nb]
          exact s24 b o (sb b o nb z)
        · have := st4.put (c := (r, k, sa, dd)) room ⟨(), s34 _ _ e1⟩ (s34 _ _ e2) (fun z => ?_) hed
          · rw [List.map_append] at this
            exact this
          · obtain ⟨c, hc, e⟩ := List.mem_map.mp z
            obtain ⟨_, _, kvs, h3, _⟩ := st.cells c hc
            rw [show c.2.2.2 = dd from e, ndd] at h3
            cases h3
      · rintro σ' H4 ⟨c, rfl, rfl, sb4, st4, nc⟩
        have ep4 : H4 pa = some (.tup (c.1.1.map V.str)) := sb4 _ _ (fun z => by rw [z, ed1] at epa; cases epa) epa
        have a7c : ∀ n ∈ c.1.1, A7 n := a7 c.1 (List.mem_of_getElem? hr')
        have hcs2 : (cs ++ [c]).map (·.1) = rs.take (i + 1) := by
          rw [List.map_append, hcs, List.take_succ, hr']
          rfl
        have hdd2 : ∀ e ∈ cs ++ [c], H1 e.2.2.2 = none := fun e he => by
          rcases List.mem_append.mp he with he | he
          · exact hdd e he
          · rw [List.mem_singleton.mp he]
            exact nc
        refine ⟨_, rfl, (by show 0 ≤ sizeLine; decide), fun p0 n0 => ?_⟩
        have s45 := same_upd (o := .tup []) n0
        refine ⟨pathD c.1.1, pathD [], .tup (SqT.of (s45 _ _ ep4)) (dp_strs _), .tup (SqT.of upd_same) .nil, shaped_path a7c, shaped_path (fun n hn => nomatch hn), _, rfl, ?_⟩
        rw [eqv_path]
        generalize (upd H4 p0 (.tup [])) = H5 at s45 ⊢
        have st5 := st4.same s45
        have ep5 := s45 _ _ ep4
        have sb5 : SameBut d H1 H5 := fun b o nb z => s45 b o (sb4 b o nb z)
        by_cases hroot : c.1.1 = []
        · rw [decide_eq_true hroot]
          exact ⟨cs ++ [c], _, _, _, _, rfl, sb5, st5.root hgood hfit hroot, hcs2, hdd2⟩
        · rw [decide_eq_false hroot]
          obtain ⟨n, hn⟩ : ∃ n, c.1.1.getLast? = some n := by
            cases hq : c.1.1.getLast? with
            | none => exact absurd (List.getLast?_eq_none_iff.mp hq) hroot
            | some n => exact ⟨n, rfl⟩
          have hpn := last_back hn
          obtain ⟨pc, hpc, epc⟩ : ∃ pc ∈ cs, pc.1.1 = c.1.1.dropLast := by
            cases hq : (cs.map (·.1)).getLast? with
            | none => exact absurd (hfit.1.mpr (List.getLast?_eq_none_iff.mp hq)) hroot
            | some l =>
              obtain ⟨a, ha, e⟩ := List.mem_map.mp (hfit.2 l hq).2
              obtain ⟨pc, hpc, rfl⟩ := List.mem_map.mp ha
              exact ⟨pc, hpc, e⟩
          have npos : 0 < c.1.1.length := List.length_pos_iff.mpr hroot
          refine ⟨_, rfl, _, rfl, _, rfl, _, rfl, pa, _, rfl, SqT.of ep5, fun hw => ?_, fun _ pb npb => ?_⟩
          · have hw2 : ((-1 : Int) + ((c.1.1.map V.str).length : Int)).toNat = (c.1.1.map V.str).length := hw.2
            rw [List.length_map] at hw2
            omega
          rw [cut_last]
          have s67 := same_upd (o := .tup (c.1.1.dropLast.map V.str)) npb
          have epb : (upd H5 pb (.tup (c.1.1.dropLast.map V.str))) pb = some (.tup (c.1.1.dropLast.map V.str)) := upd_same
          generalize (upd H5 pb (.tup (c.1.1.dropLast.map V.str))) = H7 at s67 epb ⊢
          refine ⟨(by show 2 ≤ sizeLine; decide), fun k3 nk3 => ?_⟩
          have s78 := same_upd (o := .tup [.int 0, .ref pb]) nk3
          have ek3 : (upd H7 k3 (.tup [.int 0, .ref pb])) k3 = some (.tup [.int 0, .ref pb]) := upd_same
          generalize (upd H7 k3 (.tup [.int 0, .ref pb])) = H8 at s78 ek3 ⊢
          have s58 : Same H5 H8 := fun b o z => s78 b o (s67 b o z)
          have st8 := st5.same s58
          have room3 : RoomT H8 k3 c.1.1.dropLast := ⟨pb, ek3, s78 _ _ epb⟩
          obtain ⟨_, ⟨_, esp⟩, _⟩ := st8.cells pc hpc
          have ndp : (((cs ++ [c]).map entC).map (·.1)).Nodup := by
            have h1 := good_nodup (hgood.snoc hfit)
            rw [show cs.map (·.1) ++ [c.1] = (cs ++ [c]).map (·.1) from by rw [List.map_append]; rfl, List.map_map] at h1
            rw [List.map_map]
            exact h1
          refine ⟨d, k3, (cs ++ [c]).map entC, c.1.1.dropLast, entC pc, rfl, rfl, st8.at_, st8.keys, room3, ?_, ?_⟩
          · rw [← epc]
            exact getN_of (e := entC pc) ndp (List.mem_map.mpr ⟨pc, List.mem_append_left _ hpc, rfl⟩)
          refine ⟨pc.2.2.1, _, 1, .ref pc.2.2.2, rfl, rfl, SqL.of esp, rfl, ?_⟩
          have ep8 := s58 _ _ ep5
          refine ⟨_, rfl, (by show 2 ≤ sizeLine; decide), fun k2 nk2 => ?_⟩
          have s89 := same_upd (o := .tup [.int 0, .ref pa]) nk2
          have ek2 : (upd H8 k2 (.tup [.int 0, .ref pa])) k2 = some (.tup [.int 0, .ref pa]) := upd_same
          generalize (upd H8 k2 (.tup [.int 0, .ref pa])) = H9 at s89 ek2 ⊢
          have st9 := st8.same s89
          have ep9 := s89 _ _ ep8
          obtain ⟨_, _, kvs, ekv, hdoors⟩ := st9.cells pc hpc
          refine ⟨_, rfl, _, rfl, _, rfl, pa, _, rfl, .inr (SqT.of ep9), _, _, rfl, rfl, pa, _, _, .str n, rfl, rfl, SqT.of ep9, ?_, ?_⟩
          · unfold atI ixN
            rw [List.length_map, if_pos (by omega), if_pos (by omega)]
            show (c.1.1.map V.str)[((c.1.1.length : Int) - 1).toNat]? = _
            rw [show ((c.1.1.length : Int) - 1).toNat = c.1.1.length - 1 by omega, List.getElem?_map, ← List.getLast?_eq_getElem?, hn]
            rfl
          have klen : kvs.length < sizeLine := by
            have h1 := congrArg List.length hdoors.keys
            rw [List.length_map, List.length_map] at h1
            have h2 : (kids pc.1.1 (cs.map (·.1))).length ≤ (cs.map (·.1)).length := List.length_filterMap_le _ _
            rw [List.length_map] at h2
            omega
          refine ⟨pc.2.2.2, _, rfl, DPut.k (k := Sum.inr n) ekv klen, ?_⟩
          have fin := st9.door (n := n) (k := k2) hgood hfit hpc (by rw [epc]; exact hpn) ⟨pa, ek2, ep9⟩ ekv
          refine ⟨cs ++ [c], _, _, _, _, rfl, fun b o nb z => ?_, fin, hcs2, hdd2⟩
          rw [upd_ne (fun e => by
            have := hdd pc hpc
            rw [← e, z] at this
            cases this)]
          exact s89 b o (s58 b o (sb5 b o nb z))
    · rintro σ H' ⟨cs, _, _, _, _, rfl, sb, st, hcs, _⟩
      rw [ulen, List.take_length] at hcs
      refine ⟨_, rfl, qR d H' (fun b o z => sb b o (ne_of_none z nd) (s1 b o z)) ⟨cs, st, hcs, good⟩⟩
end
end Law

set_option Elab.async false
set_option linter.all false
set_option maxRecDepth 100000
set_option maxHeartbeats 1000000
namespace Law
open PySem PySem.Spec PyProof.Rows L2 Cor
/-! ### all paths, room by room -/
structure Bfs (rs : List Rw) (fp : List (List Str)) (a : Nat) : Prop where
  nd : fp.Nodup
  sub : ∀ q ∈ fp, q ∈ rs.map (·.1)
  hd : fp.head? = some []
  le : a ≤ fp.length
  par : ∀ q ∈ fp, q ≠ [] → ∃ j, j < a ∧ fp[j]? = some q.dropLast
  kid : ∀ j, j < a → ∀ q, fp[j]? = some q → ∀ n ∈ kids q rs, q ++ [n] ∈ fp
theorem Bfs.init {rs : List Rw} (h : Good rs) (ne : rs ≠ []) : Bfs rs [[]] 0 :=
  ⟨by simp, fun q hq => by rw [List.mem_singleton.mp hq]; exact good_root h ne, rfl, Nat.zero_le _, fun q hq hn => absurd (List.mem_singleton.mp hq) hn, fun j hj => absurd hj (Nat.not_lt_zero _)⟩
theorem Bfs.step {rs : List Rw} {fp : List (List Str)} {a : Nat} {q : List Str} {ys : List Str} (h : Bfs rs fp a) (good : Good rs) (hq : fp[a]? = some q) (perm : ys.Perm (kids q rs)) : Bfs rs (fp ++ ys.map fun n => q ++ [n]) (a + 1) := by
  have ha : a < fp.length := (List.getElem?_eq_some_iff.mp hq).1
  have ynd : ys.Nodup := perm.nodup_iff.mpr (kids_nodup good q)
  have old : ∀ n, q ++ [n] ∉ fp := fun n hm => by
    obtain ⟨j, hj, e⟩ := h.par _ hm (by simp)
    rw [List.dropLast_concat] at e
    have hjl : j < fp.length := by omega
    have e1 := (List.getElem?_eq_some_iff.mp e).2
    have e2 := (List.getElem?_eq_some_iff.mp hq).2
    have hnd := h.nd
    unfold List.Nodup at hnd
    rw [List.pairwise_iff_getElem] at hnd
    exact hnd j a hjl ha hj (e1.trans e2.symm)
  refine ⟨?_, fun x hx => ?_, ?_, ?_, fun x hx hn => ?_, fun j hj x hx n hn => ?_⟩
  · rw [List.nodup_append]
    refine ⟨h.nd, ?_, fun x hx y hy z => ?_⟩
    · unfold List.Nodup
      rw [List.pairwise_map]
      exact List.Pairwise.imp (fun {a b} hab z => hab (by simpa using z)) ynd
    · obtain ⟨n, _, rfl⟩ := List.mem_map.mp hy
      rw [z] at hx
      exact old n hx
  · rcases List.mem_append.mp hx with hx | hx
    · exact h.sub x hx
    · obtain ⟨n, hn, rfl⟩ := List.mem_map.mp hx
      exact kids_iff.mp (perm.mem_iff.mp hn)
  · rw [List.head?_append, h.hd]
    rfl
  · rw [List.length_append]
    omega
  · rcases List.mem_append.mp hx with hx | hx
    · obtain ⟨j, hj, e⟩ := h.par x hx hn
      exact ⟨j, by omega, by rw [List.getElem?_append_left (by omega)]; exact e⟩
    · obtain ⟨n, _, rfl⟩ := List.mem_map.mp hx
      exact ⟨a, Nat.lt_succ_self _, by rw [List.dropLast_concat, List.getElem?_append_left ha]; exact hq⟩
  · have hjl : j < fp.length := by omega
    rw [List.getElem?_append_left hjl] at hx
    rcases Nat.lt_or_ge j a with hlt | hge
    · exact List.mem_append_left _ (h.kid j hlt x hx n hn)
    · have : j = a := by omega
      subst this
      rw [hq] at hx
      cases hx
      exact List.mem_append_right _ (List.mem_map.mpr ⟨n, perm.mem_iff.mpr hn, rfl⟩)
theorem Bfs.all {rs : List Rw} {fp : List (List Str)} {a : Nat} (h : Bfs rs fp a) (good : Good rs) (ha : fp.length ≤ a) : ∀ q, q ∈ fp ↔ q ∈ rs.map (·.1) := by
  have key : ∀ (k : Nat) (q : List Str), q.length = k → q ∈ rs.map (·.1) → q ∈ fp := by
    intro k
    induction k with
    | zero =>
      intro q hl _
      rw [List.length_eq_zero_iff.mp hl]
      exact List.mem_of_head? h.hd
    | succ k ih =>
      intro q hl hq
      have hne : q ≠ [] := fun z => by rw [z] at hl; cases hl
      obtain ⟨r, hr, rfl⟩ := List.mem_map.mp hq
      have hp := parent_mem good hr hne
      have hin := ih r.1.dropLast (by rw [List.length_dropLast]; omega) hp
      obtain ⟨j, hj⟩ := List.mem_iff_getElem?.mp hin
      have hjl := (List.getElem?_eq_some_iff.mp hj).1
      obtain ⟨n, hn⟩ : ∃ n, r.1.getLast? = some n := by
        cases hg : r.1.getLast? with
        | none => exact absurd (List.getLast?_eq_none_iff.mp hg) hne
        | some n => exact ⟨n, rfl⟩
      have hb := last_back hn
      have := h.kid j (by omega) _ hj n (kids_iff.mpr (by rw [← hb]; exact hq))
      rw [← hb] at this
      exact this
  exact fun q => ⟨h.sub q, fun hq => key q.length q rfl hq⟩
theorem Bfs.len {rs : List Rw} {fp : List (List Str)} {a : Nat} (h : Bfs rs fp a) : fp.length ≤ rs.length := by
  have := nodup_len h.nd h.sub
  rwa [List.length_map] at this
abbrev sPathsL : Stmt := topS 32
theorem scPathsL : FnScope ["_law_state_here", "_law_found", "_law_at", "_law_path_here", "_law_room", "_law_below", "_law_name"] ["_law_state_here"] (defScope sPathsL) := ⟨rfl, rfl, rfl, by decide +kernel, rfl, by decide +kernel, by decide +kernel⟩
def spPathsL (P : Program) (w : World) : Sp := fun vs H Q _ => ∃ (d : Addr) (rs : List Rw), vs = [.ref d] ∧ StateAt P w H d rs ∧ Beg rs ∧ ∀ L us H', Same H H' → H' L = some (.lst us) → PairsAt H' us (rs.map (·.1)) → Q (.ref L) H'
section
variable {P : Program} {w : World} {K : PySem.W.Frag} {mg : Str → Option Value} {base : Heap}
theorem ok_pathsL {f : Addr} {fd : FuncData} (F : Fun K "_law_paths" "_law_paths" sPathsL f fd) (T : GloP K mg) : FnOk P w K mg base CX0 1 f fd ["_law_state_here"] (spPathsL P w) := by
  refine F.ok scPathsL (k := 0) (fun vs H Q E h => ?_) (fun cdv A outer s H vs Q E hr h => ?_)
  · obtain ⟨d, rs, rfl, _⟩ := h
    rfl
  · obtain ⟨d, rs, rfl, hst, hB, q⟩ := h
    have hu := hu_of hr
    have hu10 : (cxOf CX0 P w K mg base ["_law_state_here", "_law_found", "_law_at", "_law_path_here", "_law_room", "_law_below", "_law_name"] "_law_paths" (defScope sPathsL) f cdv A outer s H E).nox.A.units + 10 < cLine := by
      have := hr.units
      show (A.deeper _).units + 10 < cLine
      omega
    refine ⟨_, (pss_cons (ps_par (i := 1) (j := 2) (by rfl) scPathsL.nd rfl rfl (by decide) rfl rfl (pa_cons (pe_lst (pa_cons (pe_tup (pa_cons (pe_tup pa_nil) (pa_cons (pe_tup (pa_cons pe_int (pa_cons (pe_tup pa_nil) pa_nil))) pa_nil))) pa_nil)) (pa_cons pe_int pa_nil)) (by rfl))
      (pss_cons (ps_while PassesOwn.never (pt_cmpR op_lt (pv 2) (pe_callB call_len_seq (by rfl) T.len PySem.boot_len (pa_cons (pv 1) pa_nil)) (nomark _)) (pss_cons (ps_asg (pe_ix ix_list (pv 1) (pv 2) (fun _ _ => rfl)) (pg_tup rfl (pgs_cons (pg_name (i := 3) scPathsL.nd rfl (Or.inr rfl)) (pgs_cons (pg_name (i := 4) scPathsL.nd rfl (Or.inl rfl)) pgs_nil))))
      (pss_cons (ps_set (i := 5) scPathsL.nd rfl (Or.inr rfl) (pe_ix ix_list (pe_getN hu10 (pv 0) (pv 4) (fun _ _ => rfl)) pe_int (fun _ _ => rfl)))
      (pss_cons (ps_expr (pe_bm PySem.F.plainAttrs_list PySem.F.slot_list_extend PySem.F.type_list_extend mt_extend (pv 1) (pa_cons (pe_lc (own := [("_law_name", 6)]) (g := gName 6) (te := tTup (tCons (tOp (rCatA K) (tVar 3) (tTup (tCons (tVar 6) tNil))) (tCons (tDGet (tVar 5) (tVar 6)) tNil))) (by rfl) scPathsL.nd (pi_list (pe_callB (call_sortedD rfl) (by rfl) T.sorted (by decide +kernel) (pa_cons (pv 5) pa_nil))) (blkOk_by (own := [("_law_name", 6)]) (N := ["_law_state_here", "_law_found", "_law_at", "_law_path_here", "_law_room", "_law_below", "_law_name"]) (sc := defScope sPathsL) (by decide +kernel)) (fun _ _ _ _ _ => (pg_name (i := 6) scPathsL.nd rfl (Or.inl rfl))) (fun _ _ _ _ _ => pts_nil) (fun _ _ _ _ _ => (pe_tup (pa_cons (pe_op op_catA (pv 3) (pe_tup (pa_cons (pv 6) pa_nil))) (pa_cons (pe_dget hu (pv 5) (pv 6) (fun _ _ => rfl)) pa_nil))))) pa_nil)))
      (pss_one (ps_set (i := 2) scPathsL.nd rfl (Or.inl rfl) (pe_op op_add (pv 2) pe_int)))))))
      (pss_one (ps_ret (pe_callB (cr_sortPairs hr.units) (by rfl) T.sorted (by decide +kernel) (pa_cons (pv 1) pa_nil)))))), ?_⟩
    obtain ⟨cs, st, hcs, good⟩ := hst
    have n16 := hB.n16
    have clen : cs.length = rs.length := by rw [← hcs, List.length_map]
    have at0 : H d = some (DN P w d (cs.map entC)) := st.at_.elim id fun z => absurd (by rw [← hcs, z.2]; rfl) hB.ne
    have ndp : ((cs.map entC).map (·.1)).Nodup := by
      have h1 := good_nodup good
      rw [← hcs, List.map_map] at h1
      rw [List.map_map]
      exact h1
    refine ⟨(by show 0 ≤ sizeLine; decide), fun p0 np0 => ?_⟩
    have u0 := same_upd (o := .tup []) np0
    have ep0 : (upd H p0 (.tup [])) p0 = some (.tup []) := upd_same
    generalize (upd H p0 (.tup [])) = G1 at u0 ep0 ⊢
    refine ⟨(by show 0 ≤ sizeLine; decide), fun p1 np1 => ?_⟩
    have u1 := same_upd (o := .tup []) np1
    have ep1 : (upd G1 p1 (.tup [])) p1 = some (.tup []) := upd_same
    generalize (upd G1 p1 (.tup [])) = G2 at u1 ep1 ⊢
    refine ⟨(by show 2 ≤ sizeLine; decide), fun k0 nk0 => ?_⟩
    have u2 := same_upd (o := .tup [.int 0, .ref p1]) nk0
    have ek0 : (upd G2 k0 (.tup [.int 0, .ref p1])) k0 = some (.tup [.int 0, .ref p1]) := upd_same
    generalize (upd G2 k0 (.tup [.int 0, .ref p1])) = G3 at u2 ek0 ⊢
    refine ⟨(by show 2 ≤ sizeLine; decide), fun t0 nt0 => ?_⟩
    have u3 := same_upd (o := .tup [.ref p0, .ref k0]) nt0
    have et0 : (upd G3 t0 (.tup [.ref p0, .ref k0])) t0 = some (.tup [.ref p0, .ref k0]) := upd_same
    generalize (upd G3 t0 (.tup [.ref p0, .ref k0])) = G4 at u3 et0 ⊢
    refine ⟨(by show 1 ≤ sizeLine; decide), fun L nL => ?_⟩
    have u4 := same_upd (o := .lst [.ref t0]) nL
    have eL0 : (upd G4 L (.lst [.ref t0])) L = some (.lst [.ref t0]) := upd_same
    generalize (upd G4 L (.lst [.ref t0])) = G5 at u4 eL0 ⊢
    have s05 : Same H G5 := fun b o z => u4 b o (u3 b o (u2 b o (u1 b o (u0 b o z))))
    have nLH : H L = none := by
      cases hz : H L with
      | none => rfl
      | some o => rw [u3 _ _ (u2 _ _ (u1 _ _ (u0 _ _ hz)))] at nL; cases nL
    refine ⟨_, _, rfl, ?_⟩
    refine ⟨fun m σ H' => ∃ (us : List V) (fp : List (List Str)) (a : Nat) (t3 t4 t5 t6 : Option V), σ = [some (.ref d), some (.ref L), some (.int (a : Nat)), t3, t4, t5, t6] ∧ Same H H' ∧ H' L = some (.lst us) ∧ PairsAt H' us fp ∧ Bfs rs fp a ∧ m = rs.length - a, ⟨_, [.ref t0], [[]], 0, _, _, _, _, rfl, s05, eL0, .cons ⟨t0, p0, k0, rfl, u4 _ _ et0, u4 _ _ (u3 _ _ (u2 _ _ (u1 _ _ ep0))), p1, u4 _ _ (u3 _ _ ek0), u4 _ _ (u3 _ _ (u2 _ _ ep1))⟩ .nil, Bfs.init good hB.ne, rfl⟩, ?_⟩
    rintro m σ H2 ⟨us, fp, a, t3, t4, t5, t6, rfl, s02, eL, hP, hF, rfl⟩
    have ul := hP.len
    have fl := hF.len
    refine ⟨_, rfl, _, rfl, L, us, rfl, .inl (SqL.of eL), _, _, rfl, rfl, _, rfl, ?_⟩
    by_cases hlt : a < us.length
    · rw [show decide (((a : Nat) : Int) < ((us.length : Nat) : Int)) = true from decide_eq_true (by omega)]
      refine ⟨fun σ' H' => ∃ (us : List V) (fp : List (List Str)) (t3 t4 t5 t6 : Option V), σ' = [some (.ref d), some (.ref L), some (.int ((a + 1 : Nat) : Nat)), t3, t4, t5, t6] ∧ Same H H' ∧ H' L = some (.lst us) ∧ PairsAt H' us fp ∧ Bfs rs fp (a + 1), fun σ' H' ⟨us', fp', y3, y4, y5, y6, e1, e2, e3, e4, e5⟩ => ⟨rs.length - (a + 1), by omega, us', fp', a + 1, y3, y4, y5, y6, e1, e2, e3, e4, e5, rfl⟩, ?_⟩
      obtain ⟨qp, hq, t, pa, k, ev, et, epa, hroom⟩ := hP.get (List.getElem?_eq_getElem hlt)
      have hat : atI us ((a : Nat) : Int) = some (.ref t) := by
        unfold atI ixN
        rw [if_pos (by omega), if_pos (by omega), Int.toNat_natCast]
        show us[a]? = _
        rw [List.getElem?_eq_getElem hlt, ev]
      refine ⟨_, rfl, _, rfl, L, us, _, _, rfl, rfl, SqL.of eL, hat, t, _, rfl, SqT.of et, rfl, _, _, rfl, _, _, rfl, rfl, ?_⟩
      have hqm := hF.sub qp (List.mem_of_getElem? hq)
      obtain ⟨c, hc, ecp⟩ : ∃ c ∈ cs, c.1.1 = qp := by
        rw [← hcs, List.map_map] at hqm
        obtain ⟨c, hc, e⟩ := List.mem_map.mp hqm
        exact ⟨c, hc, e⟩
      have st2 := st.same s02
      obtain ⟨_, ⟨_, esp⟩, kvs, ekv, hdoors⟩ := st2.cells c hc
      rw [ecp, hcs] at hdoors
      refine ⟨_, rfl, _, rfl, d, k, cs.map entC, qp, entC c, rfl, rfl, s02 _ _ at0, st2.keys, hroom, ?_, c.2.2.1, _, 1, .ref c.2.2.2, rfl, rfl, SqL.of esp, rfl, ?_⟩
      · rw [← ecp]
        exact getN_of (e := entC c) ndp (List.mem_map.mpr ⟨c, hc, rfl⟩)
      have klen : (kids qp rs).length < 64 := by
        have h2 : (kids qp rs).length ≤ rs.length := List.length_filterMap_le _ _
        omega
      refine ⟨_, rfl, .inl ⟨rfl, _, SqL.of eL⟩, _, rfl, c.2.2.2, kvs, kids qp rs, rfl, .inl ekv, hdoors.keys, klen, fun ys S perm srt nS => ?_⟩
      have s23 := same_upd (o := .lst (ys.map V.str)) nS
      have eS : (upd H2 S (.lst (ys.map V.str))) S = some (.lst (ys.map V.str)) := upd_same
      generalize (upd H2 S (.lst (ys.map V.str))) = H3 at s23 eS ⊢
      have ylen : ys.length ≤ 16 := by
        rw [perm.length_eq]
        exact Nat.le_trans (List.length_filterMap_le _ _) n16
      refine ⟨S, rfl, ⟨_, SqL.of eS⟩, fun D nD => lc_list (xs := ys.map V.str) (te := tTup (tCons (tOp (rCatA K) (tVar 3) (tTup (tCons (tVar 6) tNil))) (tCons (tDGet (tVar 5) (tVar 6)) tNil))) (fun i H' => Same H3 H' ∧ ∃ acc, H' D = some (.lst acc) ∧ PairsAt H' acc ((ys.take i).map fun n => qp ++ [n])) ?_ ?_ ?_ ?_⟩
      · exact ⟨same_upd nD, [], upd_same, .nil⟩
      · rintro i H' _ ⟨sx, _⟩
        exact SqL.of (sx _ _ eS)
      · rintro i v H4 hv ⟨sx, acc, eD, hPa⟩
        rw [List.getElem?_map] at hv
        obtain ⟨n, hn, rfl⟩ := Option.map_eq_some_iff.mp hv
        have s24 : Same H2 H4 := fun b o z => sx b o (s23 b o z)
        have hny : n ∈ ys := List.mem_of_getElem? hn
        obtain ⟨kr, hval, hrm⟩ := (hdoors.kt (kt_same s24)).val (perm.mem_iff.mp hny)
        have alen := hPa.len
        rw [List.length_map, List.length_take] at alen
        refine ⟨rfl, _, rfl, _, rfl, (by show 1 ≤ sizeLine; decide), fun tn ntn => ?_⟩
        have s45 := same_upd (o := .tup [.str n]) ntn
        have e5 : (upd H4 tn (.tup [.str n])) tn = some (.tup [.str n]) := upd_same
        generalize (upd H4 tn (.tup [.str n])) = H5 at s45 e5 ⊢
        have tail : ∀ (pn : Addr) (H6 : Hp), Same H4 H6 → H6 pn = some (.tup ((qp ++ [n]).map V.str)) → ∀ (tt : Addr), H6 tt = none →
            ∃ acc', (upd H6 tt (.tup [.ref pn, .ref kr])) D = some (.lst acc') ∧ acc'.length < sizeLine ∧ Same H3 (upd (upd H6 tt (.tup [.ref pn, .ref kr])) D (.lst (acc' ++ [.ref tt]))) ∧ ∃ acc2, (upd (upd H6 tt (.tup [.ref pn, .ref kr])) D (.lst (acc' ++ [.ref tt]))) D = some (.lst acc2) ∧ PairsAt (upd (upd H6 tt (.tup [.ref pn, .ref kr])) D (.lst (acc' ++ [.ref tt]))) acc2 ((ys.take (i + 1)).map fun n => qp ++ [n]) := fun pn H6 s46 ep tt ntt => by
          have s67 := same_upd (o := .tup [.ref pn, .ref kr]) ntt
          have e7 : (upd H6 tt (.tup [.ref pn, .ref kr])) tt = some (.tup [.ref pn, .ref kr]) := upd_same
          generalize (upd H6 tt (.tup [.ref pn, .ref kr])) = H7 at s67 e7 ⊢
          have s47 : Same H4 H7 := fun b o z => s67 b o (s46 b o z)
          have eD7 := s47 _ _ eD
          have kx : Kt H7 (upd H7 D (.lst (acc ++ [.ref tt]))) := fun b xs e => by
            rw [upd_ne (fun z => by rw [z, eD7] at e; cases e)]
            exact e
          refine ⟨acc, eD7, Nat.lt_of_le_of_lt (show acc.length ≤ 16 by omega) (by decide), fun b o z => ?_, acc ++ [.ref tt], upd_same, ?_⟩
          · rw [upd_ne (ne_of_none z nD)]
            exact s47 b o (sx b o z)
          · rw [List.take_succ, hn, List.map_append]
            exact ((hPa.kt (kt_same s47)).kt kx).snoc ⟨tt, pn, kr, rfl, kx _ _ e7, kx _ _ (s67 _ _ ep), (hrm.kt (kt_same s47)).kt kx⟩
        have dg : ∀ {H6 : Hp}, Same H4 H6 → DGet H6 c.2.2.2 (.str n) (some (.ref kr)) := fun {H6} s46 => by
          have := DGet.k (k := Sum.inr n) (s46 _ _ (s24 _ _ ekv))
          rw [hval] at this
          exact this
        refine ⟨pa, tn, qp.map V.str, [.str n], rfl, rfl, SqT.of (s45 _ _ (s24 _ _ epa)), SqT.of e5, ?_, fun hx => ?_, (fun _ hy => nomatch hy), fun _ _ p2 np2 => ?_⟩
        · rw [List.length_map]
          have := (hB.row c.1 (by rw [← hcs]; exact List.mem_map.mpr ⟨c, hc, rfl⟩)).l9
          rw [ecp] at this
          exact Nat.le_trans (show qp.length + 1 ≤ 10 by omega) (by decide)
        · have hx2 : qp = [] := by
            cases qp with
            | nil => rfl
            | cons _ _ => cases hx
          subst hx2
          exact ⟨_, rfl, _, rfl, c.2.2.2, .ref kr, rfl, dg s45, (by show 2 ≤ sizeLine; decide), fun tt ntt => tail tn H5 s45 e5 tt ntt⟩
        · have s46 : Same H4 (upd H5 p2 (.tup (qp.map V.str ++ [.str n]))) := fun b o z => same_upd np2 b o (s45 b o z)
          exact ⟨_, rfl, _, rfl, c.2.2.2, .ref kr, rfl, dg s46, (by show 2 ≤ sizeLine; decide), fun tt ntt => tail p2 _ s46 (by rw [upd_same, List.map_append]; rfl) tt ntt⟩
      · rintro H4 ⟨sx, acc, eD, hPa⟩
        rw [List.length_map, List.take_length] at hPa
        have s24 : Same H2 H4 := fun b o z => sx b o (s23 b o z)
        have eL4 := s24 _ _ eL
        have nDL : D ≠ L := fun z => by
          rw [z] at nD
          rw [s23 _ _ eL] at nD
          cases nD
        have alen := hPa.len
        rw [List.length_map] at alen
        refine ⟨L, D, us, acc, rfl, rfl, eL4, eD, Nat.le_trans (show us.length + acc.length ≤ 40 by omega) (by decide), ?_⟩
        have kx : Kt H4 (upd H4 L (.lst (us ++ acc))) := fun b xs e => by
          rw [upd_ne (fun z => by rw [z, eL4] at e; cases e)]
          exact e
        refine ⟨_, rfl, _, _, rfl, rfl, us ++ acc, fp ++ ys.map (fun n => qp ++ [n]), _, _, _, _, rfl, fun b o z => ?_, upd_same, ((hP.kt (kt_same s24)).append hPa).kt kx, hF.step good hq perm⟩
        rw [upd_ne (ne_of_none z nLH)]
        exact s24 b o (s02 b o z)
    · rw [show decide (((a : Nat) : Int) < ((us.length : Nat) : Int)) = false from decide_eq_false (by omega)]
      have hall := hF.all good (by omega)
      refine ⟨_, rfl, L, us, fp, rfl, SqL.of eL, hP, fun ys p hY np => ?_⟩
      have hsort : fp.mergeSort pathLe = rs.map (·.1) := sort_paths hF.nd (good_nodup good) hall (good_sorted good)
      rw [hsort] at hY
      have s3 := same_upd (o := .lst ys) np
      exact q p ys _ (fun b o z => s3 b o (s02 b o z)) upd_same (hY.kt (kt_same s3))
end
end Law

set_option Elab.async false
set_option linter.all false
set_option maxRecDepth 100000
set_option maxHeartbeats 1000000
namespace Law
open PySem PySem.Spec PyProof.Rows L2 Cor
abbrev sRowsOf : Stmt := topS 33
theorem scRowsOf : FnScope ["_law_state_here", "_law_path_here", "_law_room"] ["_law_state_here"] (defScope sRowsOf) := ⟨rfl, rfl, rfl, by decide +kernel, rfl, by decide +kernel, by decide +kernel⟩
def spRowsOf (P : Program) (w : World) : Sp := fun vs H Q _ => ∃ (d : Addr) (rs : List Rw), vs = [.ref d] ∧ StateAt P w H d rs ∧ Beg rs ∧ ∀ L us H', Same H H' → H' L = some (.lst us) → RowsAt H' us rs → Q (.ref L) H'
/-- the list of a room, by its key -/
theorem StateAt.cell {P : Program} {w : World} {H : Hp} {d : Addr} {rs : List Rw} (h : StateAt P w H d rs) (ne : rs ≠ []) {r : Rw} (hr : r ∈ rs) : ∃ es dd kvs a, H d = some (DN P w d es) ∧ KeysN H es ∧ getN es r.1 = some (r.1, a) ∧ H a.2 = some (.lst [.int r.2.1, .ref dd, .str r.2.2]) ∧ H dd = some (.dK kvs) ∧ DoorsAt H r.1 kvs (kids r.1 rs) := by
  obtain ⟨cs, st, hcs, good⟩ := h
  have at0 : H d = some (DN P w d (cs.map entC)) := st.at_.elim id fun z => absurd (by rw [← hcs, z.2]; rfl) ne
  have ndp : ((cs.map entC).map (·.1)).Nodup := by
    have h1 := good_nodup good
    rw [← hcs, List.map_map] at h1
    rw [List.map_map]
    exact h1
  rw [← hcs] at hr
  obtain ⟨c, hc, rfl⟩ := List.mem_map.mp hr
  obtain ⟨_, ⟨_, esp⟩, kvs, ekv, hdoors⟩ := st.cells c hc
  rw [hcs] at hdoors
  exact ⟨cs.map entC, c.2.2.2, kvs, (c.2.1, c.2.2.1), at0, st.keys, getN_of (e := entC c) ndp (List.mem_map.mpr ⟨c, hc, rfl⟩), esp, ekv, hdoors⟩
section
variable {P : Program} {w : World} {K : PySem.W.Frag} {mg : Str → Option Value} {base : Heap}
theorem ok_rowsOf {f : Addr} {fd : FuncData} (F : Fun K "_law_rows_of" "_law_rows_of" sRowsOf f fd) (T : GloP K mg) (dp : Df P w K mg base "_law_paths" 1 ["_law_state_here"] (spPathsL P w)) : FnOk P w K mg base CX0 2 f fd ["_law_state_here"] (spRowsOf P w) := by
  refine F.ok scRowsOf (k := 1) (fun vs H Q E h => ?_) (fun cdv A outer s H vs Q E hr h => ?_)
  · obtain ⟨d, rs, rfl, _⟩ := h
    rfl
  · obtain ⟨d, rs, rfl, hst, hB, q⟩ := h
    have hu10 : (cxOf CX0 P w K mg base ["_law_state_here", "_law_path_here", "_law_room"] "_law_rows_of" (defScope sRowsOf) f cdv A outer s H E).nox.A.units + 10 < cLine := by
      have := hr.units
      show (A.deeper _).units + 10 < cLine
      omega
    refine ⟨_, (pss_one (ps_ret (pe_lc (own := [("_law_path_here", 1), ("_law_room", 2)]) (g := gTup K 2 (gCons (gName 1) (gCons (gName 2) gNil))) (te := tTup (tCons (tVar 1) (tCons (tOp rIxL0 (tGetN P w (tVar 0) (tVar 2)) (tC (.int 0))) (tCons (tOp rIxL0 (tGetN P w (tVar 0) (tVar 2)) (tC (.int 2))) tNil)))) (by rfl) scRowsOf.nd (pi_list (pe_df (E := E0) dp hr (by rfl) (pa_cons (pv 0) pa_nil))) (blkOk_by (own := [("_law_path_here", 1), ("_law_room", 2)]) (N := ["_law_state_here", "_law_path_here", "_law_room"]) (sc := defScope sRowsOf) (by decide +kernel)) (fun _ _ _ _ _ => (pg_tup (n := 2) rfl (pgs_cons (pg_name (i := 1) scRowsOf.nd rfl (Or.inl rfl)) (pgs_cons (pg_name (i := 2) scRowsOf.nd rfl (Or.inl rfl)) pgs_nil)))) (fun _ _ _ _ _ => pts_nil) (fun _ _ _ _ _ => (pe_tup (pa_cons (pv 1) (pa_cons (pe_ix ix_lst (pe_getN hu10 (pv 0) (pv 2) (fun _ _ => rfl)) pe_int (fun _ _ => rfl)) (pa_cons (pe_ix ix_lst (pe_getN hu10 (pv 0) (pv 2) (fun _ _ => rfl)) pe_int (fun _ _ => rfl)) pa_nil)))))))), ?_⟩
    refine ⟨_, rfl, d, rs, rfl, hst, hB, fun L us H1 s1 eL hP => ?_⟩
    have ul := hP.len
    rw [List.length_map] at ul
    have n16 := hB.n16
    refine ⟨L, rfl, ⟨_, SqL.of eL⟩, fun D nD => lc_list (xs := us) (te := tTup (tCons (tVar 1) (tCons (tOp rIxL0 (tGetN P w (tVar 0) (tVar 2)) (tC (.int 0))) (tCons (tOp rIxL0 (tGetN P w (tVar 0) (tVar 2)) (tC (.int 2))) tNil)))) (fun i H' => Same H1 H' ∧ ∃ acc, H' D = some (.lst acc) ∧ RowsAt H' acc (rs.take i)) ?_ ?_ ?_ ?_⟩
    · exact ⟨same_upd nD, [], upd_same, .nil⟩
    · rintro i H' _ ⟨sx, _⟩
      exact SqL.of (sx _ _ eL)
    · rintro i v H2 hv ⟨sx, acc, eD, hR⟩
      obtain ⟨qp, hq, t, pa, k, rfl, et, epa, hroom⟩ := hP.get hv
      rw [List.getElem?_map] at hq
      obtain ⟨r, hr', rfl⟩ := Option.map_eq_some_iff.mp hq
      have s02 : Same H H2 := fun b o z => sx b o (s1 b o z)
      obtain ⟨es, dd, kvs, a, h1, h2, h3, h4, h5, h6⟩ := (hst.same s02).cell hB.ne (List.mem_of_getElem? hr')
      have hrm := hroom.kt (kt_same sx)
      have alen := hR.len
      rw [List.length_take] at alen
      refine ⟨t, _, rfl, SqT.of (sx _ _ et), rfl, _, _, rfl, _, _, rfl, rfl, rfl, ?_⟩
      refine ⟨_, rfl, _, rfl, _, rfl, d, k, es, r.1, _, rfl, rfl, h1, h2, hrm, h3, a.2, _, 0, .int r.2.1, rfl, rfl, h4, rfl, ?_⟩
      refine ⟨_, rfl, _, rfl, d, k, es, r.1, _, rfl, rfl, h1, h2, hrm, h3, a.2, _, 2, .str r.2.2, rfl, rfl, h4, rfl, (by show 3 ≤ sizeLine; decide), fun tt ntt => ?_⟩
      have s23 := same_upd (o := .tup [.ref pa, .int r.2.1, .str r.2.2]) ntt
      have e3 : (upd H2 tt (.tup [.ref pa, .int r.2.1, .str r.2.2])) tt = some (.tup [.ref pa, .int r.2.1, .str r.2.2]) := upd_same
      generalize (upd H2 tt (.tup [.ref pa, .int r.2.1, .str r.2.2])) = H3 at s23 e3 ⊢
      have eD3 := s23 _ _ eD
      have kx : Kp H3 (upd H3 D (.lst (acc ++ [.ref tt]))) := fun b o n z => by
        rw [upd_ne (fun e => by rw [e, eD3] at z; exact n _ (Option.some.inj z).symm)]
        exact z
      refine ⟨acc, eD3, Nat.lt_of_le_of_lt (show acc.length ≤ 16 by omega) (by decide), fun b o z => ?_, acc ++ [.ref tt], upd_same, ?_⟩
      · rw [upd_ne (ne_of_none z nD)]
        exact s23 b o (sx b o z)
      · rw [List.take_succ, hr']
        exact ((hR.kp (Same.kp s23)).kp kx).snoc ⟨tt, pa, rfl, kx _ _ (fun _ z => by cases z) e3, kx _ _ (fun _ z => by cases z) (s23 _ _ (sx _ _ epa))⟩
    · rintro H2 ⟨sx, acc, eD, hR⟩
      rw [ul, List.take_length] at hR
      exact q D acc H2 (fun b o z => sx b o (s1 b o z)) eD hR
end
end Law

set_option Elab.async false
set_option linter.all false
set_option maxRecDepth 100000
set_option maxHeartbeats 1000000
/-! len(o), x not in o, o[x] of an instance whose class has its own __len__, __contains__, __getitem__. -/
namespace Cor
open PySem PySem.Spec PyProof.Rows L2
section
variable {X : Cx} {C g : Addr} {k : Nat} {sp : Sp}
def rLenO (C : Addr) (sp : Sp) : List V → Hp → VK → Prop := fun xs H Q => ∃ a dx fs, xs = [.ref a] ∧ H a = some (.ins C dx fs) ∧ sp [.ref a] H (fun z H' => ∃ n : Int, z = .int n ∧ 0 ≤ n ∧ n < 2 ^ 63 ∧ Q z H') E0
theorem call_lenO (hs : PySem.W.findIn X.K (.ref C) "__len__" = some (some (.ref g))) (M : MdR X.prog X.w X.K X.mg X.base k g sp) (hr : Room (k + 1) X.A) : CallR X (.builtin "len") (rLenO C sp) := by
  intro pins s σ H xs us Q I r h
  obtain ⟨a, dx, fs, rfl, ha, q⟩ := h
  rw [Vals.ref1 r]
  obtain ⟨ox, od, J⟩ := ins_at I ha
  obtain ⟨m, hF⟩ := I.fr
  refine PySem.W.len_K hF I.ok.mod.kin J hs M.2.1 (wpAny_mono (wpAny_call (SlX.run_at (us := [.ref a]) (ws := [.ref a]) M.1 (Room.in1 hr) I.env0.in1 pass0 I (.cons rfl .nil) q)) (fun w s' z => ?_) fun _ _ x => x)
  obtain ⟨z', H', I', rz, n, rfl, n0, n1, qz⟩ := z
  obtain ⟨t, rfl⟩ := rz
  exact ⟨⟨n0, n1⟩, .int n, H', I'.tok _, ⟨_, rfl⟩, qz⟩
def rNotInO (C : Addr) (sp : Sp) : R2 := fun x y H Q => ∃ a dx fs, y = .ref a ∧ H a = some (.ins C dx fs) ∧ sp [y, x] H (fun z H' => ∃ b : Bool, z = .bl b ∧ Q (.bl (!b)) H') E0
theorem op_notInO (hs : PySem.W.findIn X.K (.ref C) "__contains__" = some (some (.ref g))) (M : MdR X.prog X.w X.K X.mg X.base k g sp) (hr : Room k X.A) : OpR X (compareOp .NotIn) (rNotInO C sp) := by
  intro pins s σ H x y v u Q I rx ry h
  obtain ⟨a, dx, fs, rfl, ha, q⟩ := h
  cases (show u = Value.ref a from ry)
  obtain ⟨ox, od, J⟩ := ins_at I ha
  obtain ⟨m, hF⟩ := I.fr
  refine PySem.W.notIn_K hF I.ok.mod.kin J hs M.2.1 (wpAny_mono (wpAny_call (run_fnR (us := [.ref a, v]) (vs := [.ref a, x]) M.1 hr pass0 I (.cons rfl (.cons rx .nil)) q)) (fun w s' z => ?_) fun _ _ x => x)
  obtain ⟨z', H', I', rz, b, rfl, qz⟩ := z
  cases (show w = Value.bool b from rz)
  exact wpAny_truthy_bool ⟨.bl (!b), H', I', rfl, qz⟩
def tIxO (C : Addr) (sp : Sp) (ta tb : TE) : TE := fun σ H Q => ta σ H fun x H1 => tb σ H1 fun y H2 => ∃ a dx fs, x = .ref a ∧ H2 a = some (.ins C dx fs) ∧ sp [x, y] H2 Q E0
/-- o[x] -/
theorem pe_ixO {a b : Expr} {ta tb : TE} {pos : Pos} (hs : PySem.W.findIn X.K (.ref C) "__getitem__" = some (some (.ref g))) (hf : PySem.W.fnIn X.K g = true) (M : MdR X.prog X.w X.K X.mg X.base k g sp) (hr : Room (k + 1) X.A) (ha : PE X a ta) (hb : PE X b tb)
    (hsl : ∀ x i, subscripted b true (.ref x) i = runValue (.builtin "lifetime.subscript" ⟨[.ref x, i], []⟩) := by intro _ _; with_unfolding_all rfl) : PE X (.Subscript a b pos) (tIxO C sp ta tb) := by
  refine ⟨fun pins s σ H Q I h => ?_⟩
  refine Subscript_ (thn (ha.run pins s σ H _ I h) fun v s1 ⟨x, H1, I1, rx, h1⟩ => ?_)
  refine thn (hb.run pins s1 σ H1 _ I1 h1) fun u s2 ⟨y, H2, I2, ry, p, dx, fs, ex, hp, q⟩ => ?_
  subst ex
  cases (show v = Value.ref p from rx)
  obtain ⟨ox, od, J⟩ := ins_at I2 hp
  obtain ⟨m, hF⟩ := I2.fr
  exact PySem.W.sub_K hF I2.ok.mod.kin J hs hf M.2.1 (wpAny_call (SlX.run_at (us := [.ref p, u]) (ws := [.ref p, y]) M.1 (Room.in1 hr) I2.env0.in1 pass0 I2 (.cons rfl (.cons ry .nil)) q)) (hsl p u)
end
/-- a def that may raise, where it does not -/
theorem fnOk_quiet {P : Program} {w : World} {K : PySem.W.Frag} {mg : Str → Option Value} {base : Heap} {k : Nat} {f : Addr} {fd : FuncData} {ps : List Str} {sp : Sp} (F : FnOk P w K mg base (L2.CX P w) k f fd ps sp) : FnOk P w K mg base CX0 k f fd ps (fun vs H Q _ => sp vs H Q E0) :=
  ⟨fun vs H Q E h => F.len vs H Q E0 h, fun A outer s H args us vs Q E hr e0 hb r h => codeAny_mono (F.run A outer s H args us vs Q E0 hr e0 hb r h) fun r s' hq => by
    cases r with
    | ok fl => cases fl <;> exact hq
    | error e =>
      obtain ⟨a, B, H', cls, d, _, _, _, _, _, _, _, z⟩ := hq
      exact z.elim⟩
section
variable {X : Cx} {e : Expr} {te : TE} {m x ky : Str} {p1 p2 pos kpos : Pos} {S f : Addr} {k : Nat} {fd : FuncData} {ps : List Str} {sp : Sp}
/-- S.m(ky = e), m a static method -/
theorem pe_smK {pl : Sem Bool} (T : Stm X.K X.mg x S m f) (F : FnOk X.prog X.w X.K X.mg X.base CX0 k f fd ps sp) (hk : PySem.W.keepIn X.K (.ref f) = true) (hb : ∀ (s : Shared) (u : Value), X.K.In s.heap → BindsTo s fd ⟨[], [(ky, u)]⟩ (ps.zip [u])) (hr : Room k X.A) (hg : Gl X x) (ha : PK X [⟨some ky, e, kpos⟩] (tCons (tMono te) tNil)) (hdb : (x == ("__debug__" : Str)) = false := by decide)
    (hc : eval (.Call (.Attribute (.Name x p1) m p2) [] [⟨some ky, e, kpos⟩] pos) X.env = (do
      let ov ← eval (.Name x p1) X.env
      standAt p2.atName
      let (f, first) ← holding [ov] (getMethod ov m pl)
      callWith pos f first (backTo pos (starEach [] X.env)) (backToKw pos (keywordEach [⟨some ky, e, kpos⟩] X.env))) := by rfl)
    (hall : (backToKw pos (keywordEach [⟨some ky, e, kpos⟩] X.env)).all (·.1.isSome) = true := by rfl) (hks : (backToKw pos (keywordEach [⟨some ky, e, kpos⟩] X.env)).filterMap (·.1) = [ky] := by rfl)
    (hpl : ((backTo pos (starEach [] X.env)).any (·.1) || (backToKw pos (keywordEach [⟨some ky, e, kpos⟩] X.env)).any (·.1.isNone)) = false := by rfl) :
    PE X (.Call (.Attribute (.Name x p1) m p2) [] [⟨some ky, e, kpos⟩] pos) (fun σ H Q => te σ H fun v H1 => sp [v] H1 Q E0) := by
  refine ⟨fun pins s σ H Q I h => ?_⟩
  obtain ⟨mc, rd, p, rest, fc, rc⟩ := T.rd
  refine PySem.W.methodCall_KW (ld_glob I hg T.nm ?_ hdb) hc
  refine PySem.W.method_cls I.kIn rd.ga (PySem.W.cls_bind I.kIn rd.rd fc (wpAny_call (PySem.W.sm_get (s := { s with toks := s.toks + 1 }) I.kIn rc (PySem.W.handed_on rfl ?_))))
  refine PySem.W.callWith_KW0 (h₀ := X.base) I.ok.mod.kin hk hall ?_ hpl
  refine thn (ha.run pos pins _ σ H (fun vs H2 => vs.length = 1 ∧ ∀ v, vs = [v] → sp [v] H2 Q E0) (I.tok _) ?_) fun ws s2 ⟨zs, H2, I2, rz, l1, q2⟩ => ⟨I2.kIn, ?_⟩
  · exact ⟨_, h, fun v H1 q => ⟨rfl, fun v' e' => by cases e'; exact q⟩⟩
  rw [hks]
  obtain ⟨z, rfl⟩ : ∃ z, zs = [z] := List.length_eq_one_iff.mp l1
  have l2 : ws.length = 1 := rz.length.symm
  obtain ⟨u, rfl⟩ : ∃ u, ws = [u] := List.length_eq_one_iff.mp l2
  show wpAny _ _ (call (.ref f) [] [(ky, u)]) _ _ _
  refine wpAny_call (codeAny_mono (F.run X.A X.stack s2 H2 ⟨[], [(ky, u)]⟩ [u] [z] Q E0 hr I2.env0 (hb s2 u I2.kIn) rz (q2 z rfl)) fun r s' hq => ?_)
  cases r with
  | error e => exact hq.elim
  | ok fl =>
    cases fl with
    | ret u => exact I2.after hq
    | next => exact False.elim hq
    | brk => exact False.elim hq
    | cont => exact False.elim hq
end
end Cor

set_option Elab.async false
set_option linter.all false
set_option maxRecDepth 100000
set_option maxHeartbeats 1000000
namespace Cor
open PySem PySem.Spec PyProof.Rows L2 GenW
section
variable {prog : Program} {w : World} {A : Around} {R : GenEnd} {Y : Protocol} {n : Nat} {s₀ : Shared} {c : Code} {fs : List Frame} {s : Shared} {env : Env}
  {K : Flow → Sem PySem.Fin} {J : Value → Sem PySem.Fin} {gd : Bool → Bool} {lv : List Value → List Value} {tg iter : Expr} {body : List Stmt} {pos : Pos}
/-- for, in a generator: the loop's code is called -/
theorem seg_For (hs : ∀ x, foldedSetIterable iter env x = pure x)
    (h : wpAny (model prog w) (A.over c fs) (eval iter env) (fun x s1 => wpAny (model prog w) (A.over c fs) (pyIter x) (fun it s2 =>
      ∀ (k : Result → Sem PySem.Fin) (l : List Value) (p : Pos), (∀ f, k (.ok f) = K f) → Seg (model prog w) A R Y n s₀ (.forLoop tg it body [] env) ((model prog w).den (.forLoop tg it body [] env)) (.ret k none (gd false) l c p [] :: fs) s2) (fun _ _ => False) s1) (fun _ _ => False) s) :
    Seg (model prog w) A R Y n s₀ c ((exec (.For tg iter body [] pos) env).wrap K J gd lv) fs s := by
  rw [exec_For]
  rw [Sem.bind_eq_wrap', Sem.wrap_wrap]
  refine seg_wrap (wpAny_standAt ?_)
  rw [Sem.bind_eq_wrap', Sem.wrap_wrap]
  refine seg_wrap (wpAny_mono h (fun x s1 h1 => ?_) fun _ _ z => z.elim)
  rw [hs x, Sem.bind_eq_wrap', Sem.wrap_wrap]
  refine seg_wrap (wpAny_pure ?_)
  rw [Sem.bind_eq_wrap', Sem.wrap_wrap]
  refine seg_wrap (wpAny_standAt ?_)
  rw [Sem.bind_eq_wrap', Sem.wrap_wrap]
  refine seg_wrap (wpAny_holding (wpAny_mono h1 (fun it s2 h2 => ?_) fun _ _ z => z.elim))
  exact seg_call fun p => h2 _ _ p fun f => rfl
/-- one turn of the loop's code -/
theorem seg_forTurn {it : Value}
    (h : wpAny (model prog w) (A.over (.forLoop tg it body [] env) fs) (pyNext it) (fun r s1 => match r with
      | none => Seg (model prog w) A R Y n s₀ (.forLoop tg it body [] env) (.pure (.again (.block [] env))) fs s1
      | some v => wpAny (model prog w) (A.over (.forLoop tg it body [] env) fs) (letOwnedTupleGo tg it v) (fun _ s2 => wpAny (model prog w) (A.over (.forLoop tg it body [] env) fs) (assign tg env v) (fun _ s3 =>
          ∀ J : Value → Sem PySem.Fin, Seg (model prog w) A R Y n s₀ (.forLoop tg it body [] env) ((execs body env).wrap (fun f => match f with
            | .next | .cont => .pure (.again (.forLoop tg it body [] env))
            | .brk => .pure (.done .next)
            | .ret v => .pure (.done (.ret v))) J id id) fs s3) (fun _ _ => False) s2) (fun _ _ => False) s1) (fun _ _ => False) s) :
    Seg (model prog w) A R Y n s₀ (.forLoop tg it body [] env) ((model prog w).den (.forLoop tg it body [] env)) fs s := by
  show Seg _ A R Y n s₀ _ ((forTurn tg it body [] env).onRaise (fun x => do noteFrame x env; theTreesLotGoes x)) fs s
  unfold forTurn
  rw [Sem.onRaise_eq_wrap, Sem.bind_eq_wrap', Sem.wrap_wrap]
  refine seg_wrap (wpAny_standAt ?_)
  rw [Sem.bind_eq_wrap', Sem.wrap_wrap]
  refine seg_wrap (wpAny_onRaise (wpAny_mono h (fun r s1 h1 => ?_) fun _ _ z => z.elim))
  cases r with
  | none => exact h1
  | some v =>
    show Seg _ A R Y n s₀ _ (Sem.wrap _ _ _ _ (letOwnedTupleGo tg it v >>= fun _ => assign tg env v >>= fun _ => _)) fs s1
    rw [Sem.bind_eq_wrap', Sem.wrap_wrap]
    refine seg_wrap (wpAny_mono h1 (fun _ s2 h2 => ?_) fun _ _ z => z.elim)
    rw [Sem.bind_eq_wrap', Sem.wrap_wrap]
    refine seg_wrap (wpAny_mono h2 (fun _ s3 h3 => ?_) fun _ _ z => z.elim)
    rw [Sem.bind_eq_wrap', Sem.wrap_wrap]
    rw [Sem.wrap_congr (execs body env) _ _ (K' := fun f => match f with
            | .next | .cont => .pure (.again (.forLoop tg it body [] env))
            | .brk => .pure (.done .next)
            | .ret v => .pure (.done (.ret v))) (fun f => by cases f <;> rfl) (fun e => rfl)]
    exact h3 _
end
/-! ### a generator whose consumer fills the list at S, and may turn the objects Z -/
structure SleptZ (S : Addr) (Z : List Addr) (v : Value) (s s' : Shared) : Prop where
  os : s'.os = s.os
  bare : AllBare s'.gens
  keep : ∀ b o, b ≠ S → b ∉ Z → s.heap.get? b = some o → s'.heap.get? b = some o
  own : ∀ acc c, s.heap.get? S = some (lstObj acc c) → ∃ c', s'.heap.get? S = some (lstObj (acc.push v) c')
  oth : ∀ b ∈ Z, ∃ o, s'.heap.get? b = some o ∧ ∀ u, o.data ≠ .cell u
def AliveZ (Z : List Addr) (h : Heap) : Prop := ∀ b ∈ Z, ∃ o, h.get? b = some o ∧ ∀ u, o.data ≠ .cell u
/-- ys is out and stands in S; the objects Z are as they were in hz -/
def GIZ (X : Cx) (S : Addr) (Z : List Addr) (hz : Heap) (ip : List (Addr × Obj)) (ys : List V) (σ : L2.St) (H : Hp) (s : Shared) : Prop :=
  ∃ (acc : Array Value) (c : Nat), Vals ys acc.toList ∧ Inv X ((S, lstObj acc c) :: (pinsAt Z hz ++ ip)) σ H s
structure ApartZ (X : Cx) (S : Addr) (Z : List Addr) : Prop where
  ne : S ∉ Z
  young : ∀ b, b = S ∨ b ∈ Z → X.s_0.heap.objs.size ≤ b ∧ b ≠ X.env.locals ∧ ∀ x c, X.env.cells.lookup x = some c → c ≠ b
  pn : ∀ p ∈ X.pn, p.1 ≠ S ∧ p.1 ∉ Z
theorem GIZ.woken {X : Cx} {S : Addr} {Z : List Addr} {hz : Heap} {ip : List (Addr × Obj)} {ys : List V} {x : V} {v : Value} {σ : L2.St} {H : Hp} {s s' : Shared} (hA : ApartZ X S Z) (hip : ∀ p ∈ ip, p.1 ≠ S ∧ p.1 ∉ Z) (al : AliveZ Z hz) (h : GIZ X S Z hz ip ys σ H s) (rv : RelV x v) (z : SleptZ S Z v s s') :
    GIZ X S Z s'.heap ip (ys ++ [x]) σ H s' := by
  obtain ⟨acc, c, r, I⟩ := h
  have pinS := I.pin (S, lstObj acc c) (List.mem_append_right _ List.mem_cons_self)
  have pinZ : ∀ b ∈ Z, H b = none ∧ b ≠ X.env.locals ∧ b ∉ X.fs := fun b hb => by
    obtain ⟨o, e, _⟩ := al b hb
    obtain ⟨_, q1, q2, q3, _⟩ := I.pin (b, o) (List.mem_append_right _ (List.mem_cons_of_mem _ (List.mem_append_left _ (mem_pinsAt hb e))))
    exact ⟨q1, q2, q3⟩
  have free : ∀ b, b = S ∨ b ∈ Z → H b = none ∧ b ≠ X.env.locals ∧ b ∉ X.fs := fun b hb => by
    rcases hb with rfl | hb
    · exact ⟨pinS.2.1, pinS.2.2.1, pinS.2.2.2.1⟩
    · exact pinZ b hb
  have I0 : Inv X ip σ H s := I.pins_of fun p hp => I.pin p (List.mem_append_right _ (List.mem_cons_of_mem _ (List.mem_append_right _ hp)))
  have nt : ∀ b u, H b = some u → b ≠ S ∧ b ∉ Z := fun b u q => ⟨(fun e => by rw [(free b (.inl e)).1] at q; cases q), (fun e => by rw [(free b (.inr e)).1] at q; cases q)⟩
  obtain ⟨z1, z2, z3, z4, z5⟩ := z
  obtain ⟨c', eS'⟩ := z4 acc c pinS.1
  obtain ⟨hh, g, d, t, o⟩ := s'
  have ho : o = s.os := z1
  subst ho
  have nc : ∀ b, b ∉ S :: Z → b ≠ S ∧ b ∉ Z := fun b hb => ⟨fun e => hb (by rw [e]; exact List.mem_cons_self), fun e => hb (List.mem_cons_of_mem _ e)⟩
  have kp : ∀ b ob, b ∉ S :: Z → s.heap.get? b = some ob → hh.get? b = some ob := fun b ob hb q => z3 b ob (nc b hb).1 (nc b hb).2 q
  have Jv : Inv X ip σ H { s with heap := hh, gens := g, drawn := d, toks := t } := by
    refine I0.step (g' := g) (t' := t) (d' := d) (ch := S :: Z) (fun b hb => ?_)
      (fun b ob _ _ hc q _ => kp b ob hc q) (fun b ob _ _ hc q _ => ⟨ob.slots, kp b ob hc q⟩) (fun _ _ _ _ n => n) (fun b ob hc q => ⟨ob, kp b ob hc q⟩)
      (fun _ _ q => q) (fun _ _ _ q => q) (fun b ps q => ⟨#[], by rw [q]; simp⟩) (fun m hm => ?_) (fun b u q => ?_) z2
    · have hb' : b = S ∨ b ∈ Z := List.mem_cons.mp hb
      obtain ⟨y1, y2, y3⟩ := hA.young b hb'
      refine ⟨.inr y1, y2, y3, fun p hp e => ?_⟩
      have hn : p.1 ≠ S ∧ p.1 ∉ Z := (List.mem_append.mp hp).elim (hA.pn p) (hip p)
      rcases hb' with hb' | hb'
      · exact hn.1 (e.trans hb')
      · exact hn.2 (e ▸ hb')
    · obtain ⟨ob, es, ep, ho, r⟩ := hm
      exact ⟨ob, es, ep, z3 _ ob (fun e => (free _ (.inl e)).2.1 rfl) (fun e => (free _ (.inr e)).2.1 rfl) ho, r⟩
    · refine (I0.hok b u q).stay (fun c v hc y => ?_) (fun _ y => y) fun _ _ y => y
      rcases hc with y' | y'
      · rw [y'] at y ⊢
        exact z3 b v (nt b u q).1 (nt b u q).2 y
      · exact z3 c v (nt c _ y').1 (nt c _ y').2 y
  refine ⟨acc.push v, c', ?_, Jv.pins_of fun p hp => ?_⟩
  · rw [Array.toList_push]
    exact r.append (.cons rv .nil)
  · rcases List.mem_cons.mp hp with hp | hp
    · rw [hp]
      exact ⟨eS', (free S (.inl rfl)).1, (free S (.inl rfl)).2.1, (free S (.inl rfl)).2.2, fun v q => by cases q⟩
    · rcases List.mem_append.mp hp with hp | hp
      · obtain ⟨hb, e⟩ := of_pinsAt hp
        obtain ⟨o, e', d'⟩ := z5 p.1 hb
        rw [e] at e'
        cases e'
        obtain ⟨f1, f2, f3⟩ := free p.1 (.inr hb)
        exact ⟨e, f1, f2, f3, d'⟩
      · exact Jv.pin p (List.mem_append_right _ hp)
/-! ### for tg in iter: yield e -/
def YZ (sc : Shared) (S : Addr) (Z : List Addr) (a : Addr) (g : Nat) : Protocol := fun n s₀ v s1 kap =>
  s1.os = sc.os ∧ AllBare s1.gens ∧ s1.heap.NoLimit ∧ s1.heap.IsGen a g ∧ (∀ b ∈ Z, s1.heap.get? b = s₀.heap.get? b) ∧ (∃ (acc : Array Value) (c : Nat), s1.heap.get? S = some (lstObj acc c) ∧ n + 1 + acc.size = sizeLine) ∧ ∀ s', SleptZ S Z v s1 s' → kap (.send .none) s'
def tGForY (wi : TI) (g : TG) (te : TE) (Qe : List V → Hp → Prop) (σ : L2.St) (H : Hp) : Prop := wi σ H fun J H1 => ∃ W : Nat → List V → L2.St → Hp → Prop, W 0 [] σ H1 ∧ ∀ i ys σ H, W i ys σ H →
  (J.stop i H ∧ Qe ys H) ∨ (J.go i H ∧ ys.length < sizeLine ∧ ∀ x H', J.yld i H x H' → g x σ H' fun σ2 H2 => te σ2 H2 fun y H3 => W (i + 1) (ys ++ [y]) σ2 H3)
section
variable {X : Cx} {A : Around} {R : GenEnd} {sc s₀ s : Shared} {S a : Addr} {Z : List Addr} {gn : Nat} {c : Code} {fs : List Frame} {K : Flow → Sem PySem.Fin} {J : Value → Sem PySem.Fin} {gd : Bool → Bool} {lv : List Value → List Value}
  {tg iter e : Expr} {wi : TI} {gT : TG} {te : TE} {Qe : List V → Hp → Prop} {σ : L2.St} {H : Hp} {yp ep pos : Pos}
theorem seg_gfor (hc : X.calm = true) (hxe : ∀ u s', X.xe u s' → False) (hA : ApartZ X S Z) (ov : A.over c fs = X.A) (sp : splitAtGen fs = none) (gu : fs.any Frame.guarded = false) (hgd : gd false = false)
    (hi : PI X tg iter wi) (hg : PG X tg gT) (he : PE X e te) (hs : ∀ x, foldedSetIterable iter X.env x = pure x) (hco : X.env.scope.isCoroutine = false) (hin : interactive X.env = false)
    (facts : ∀ {pins : List (Addr × Obj)} {σ : L2.St} {H : Hp} {s : Shared}, Inv X pins σ H s → s.os = sc.os ∧ s.heap.IsGen a gn)
    (hend : ∀ (n : Nat) (ys : List V) (s₀ s : Shared) (σ : L2.St) (H : Hp), n + ys.length = sizeLine → AliveZ Z s₀.heap → GIZ X S Z s₀.heap [] ys σ H s → Qe ys H → Seg (model X.prog X.w) A R (YZ sc S Z a gn) n s₀ c (K .next) fs s)
    (h : tGForY wi gT te Qe σ H) (hI : GIZ X S Z s₀.heap [] [] σ H s) (al : AliveZ Z s₀.heap) :
    Seg (model X.prog X.w) A R (YZ sc S Z a gn) sizeLine s₀ c ((exec (.For tg iter [.Expr (.Yield (some e) yp) ep] [] pos) X.env).wrap K J gd lv) fs s := by
  obtain ⟨acc0, cc0, r0, I0⟩ := hI
  refine seg_For hs ?_
  rw [ov]
  refine wpAny_mono (hi.run _ s σ H _ I0 h) (fun v s1 h1 => wpAny_mono h1 (fun itv s2 h2 => ?_) fun u s' z => hxe u s' z) fun u s' z => hxe u s' z
  obtain ⟨it, fp, tn, Jt, H2, eit, I2, T, st2, f2, W, w0, turn⟩ := h2
  subst eit
  intro k l p hk
  have stat : ∀ {H' : Hp} {acc' : Array Value} {c' : Nat} {hz : Heap}, (∀ b ∈ fp, H' b = none) → ∀ b ∈ fp, FpOk X ((S, lstObj acc' c') :: (pinsAt Z hz ++ [])) H' b := fun {H' acc' c' hz} hn b hb => by
    obtain ⟨_, q1, q2, q3, q4, q5⟩ := f2 b hb
    refine ⟨hn b hb, q1, q2, q3, q4, fun p hp => ?_⟩
    rcases List.mem_append.mp hp with hp | hp
    · exact q5 p (List.mem_append_left _ hp)
    rcases List.mem_cons.mp hp with hp | hp
    · rw [hp]
      exact q5 (S, lstObj acc0 cc0) (List.mem_append_right _ List.mem_cons_self)
    · rw [List.append_nil] at hp
      obtain ⟨hz1, _⟩ := of_pinsAt hp
      obtain ⟨o, e1, _⟩ := al p.1 hz1
      exact q5 (p.1, o) (List.mem_append_right _ (List.mem_cons_of_mem _ (List.mem_append_left _ (mem_pinsAt hz1 e1))))
  have ovl : A.over (.forLoop tg (.ref it) [.Expr (.Yield (some e) yp) ep] [] X.env) (.ret k none (gd false) l c p [] :: fs) = X.A := (over_loop rfl rfl).trans ov
  have spl : splitAtGen (Frame.ret k none (gd false) l c p [] :: fs) = none := by
    show (splitAtGen fs).map _ = none
    rw [sp]
    rfl
  have gul : (Frame.ret k none (gd false) l c p [] :: fs).any Frame.guarded = false := by
    show (gd false || fs.any Frame.guarded) = false
    rw [hgd, gu]
    rfl
  have loop : ∀ (n i : Nat) (ys : List V) (s₀ s : Shared) (σ : L2.St) (H : Hp), n + ys.length = sizeLine → AliveZ Z s₀.heap → W i ys σ H → GIZ X S Z s₀.heap [] ys σ H s → tn i s.heap → (∀ b ∈ fp, H b = none) →
      Seg (model X.prog X.w) A R (YZ sc S Z a gn) n s₀ (.forLoop tg (.ref it) [.Expr (.Yield (some e) yp) ep] [] X.env) ((model X.prog X.w).den (.forLoop tg (.ref it) [.Expr (.Yield (some e) yp) ep] [] X.env)) (.ret k none (gd false) l c p [] :: fs) s := by
    intro n
    induction n with
    | zero =>
      intro i ys s₀ s σ H hn al w hG st hf
      obtain ⟨acc, cc, r, I⟩ := hG
      rcases turn i ys σ H w with ⟨stop, q⟩ | ⟨go, hlt, step⟩
      · refine seg_forTurn ?_
        rw [ovl]
        refine wpAny_mono (T.done X rfl rfl rfl hc i _ s σ H X.xe I (stat hf) st stop) (fun rr s4 ⟨hr, I4⟩ => ?_) fun u s' z => hxe u s' z
        subst hr
        refine seg_again rfl (seg_leaf (.ok .next) ?_)
        rw [hk]
        exact hend 0 ys s₀ s4 σ H hn al ⟨acc, cc, r, I4⟩ q
      · exact absurd hlt (by omega)
    | succ n ih =>
      intro i ys s₀ s σ H hn al w hG st hf
      obtain ⟨acc, cc, r, I⟩ := hG
      rcases turn i ys σ H w with ⟨stop, q⟩ | ⟨go, hlt, step⟩
      · refine seg_forTurn ?_
        rw [ovl]
        refine wpAny_mono (T.done X rfl rfl rfl hc i _ s σ H X.xe I (stat hf) st stop) (fun rr s4 ⟨hr, I4⟩ => ?_) fun u s' z => hxe u s' z
        subst hr
        refine seg_again rfl (seg_leaf (.ok .next) ?_)
        rw [hk]
        exact hend (n + 1) ys s₀ s4 σ H hn al ⟨acc, cc, r, I4⟩ q
      · refine seg_forTurn ?_
        rw [ovl]
        refine wpAny_mono (T.item X rfl rfl rfl hc i _ s σ H X.xe I (stat hf) st go) (fun rr s4 ⟨u, hr, h4⟩ => ?_) fun u s' z => hxe u s' z
        subst hr
        refine wpAny_mono h4 (fun _ s5 ⟨x, H5, I5, r5, y5, st5, fr5⟩ => ?_) fun u s' z => hxe u s' z
        have I5' := I5.pinned (stat fr5) (T.obj _ _ st5)
        refine wpAny_mono (hg.run _ s5 σ H5 x u _ I5' r5 (step x H5 y5)) (fun _ s6 ⟨σ6, H6, I6, q6⟩ => ?_) fun u s' z => hxe u s' z
        intro Jx
        refine seg_execs_cons (seg_Expr_Yield spl rfl gul ?_ hco hin)
        rw [ovl]
        refine wpAny_mono (he.run _ s6 σ6 H6 _ I6 q6) (fun v7 s7 ⟨y, H7, I7, rv, w7⟩ => ?_) fun u s' z => (hxe u s' z).elim
        intro kap hkap
        obtain ⟨f1, f2'⟩ := facts I7
        have G7 : GIZ X S Z s₀.heap (pinsAt fp s5.heap) ys σ6 H7 s7 := ⟨acc, cc, r, I7.pins_of fun p hp => I7.pin p (List.mem_append_right _ (by
          rcases List.mem_cons.mp hp with hp | hp
          · exact List.mem_append_left _ (by rw [hp]; exact List.mem_cons_self)
          · rcases List.mem_append.mp hp with hp | hp
            · exact List.mem_append_left _ (List.mem_cons_of_mem _ (List.mem_append_left _ hp))
            · exact List.mem_append_right _ hp))⟩
        have pinS := I7.pin (S, lstObj acc cc) (List.mem_append_right _ (List.mem_append_left _ List.mem_cons_self))
        have hip : ∀ q ∈ pinsAt fp s5.heap, q.1 ≠ S ∧ q.1 ∉ Z := fun q hq => by
          obtain ⟨hb, _⟩ := of_pinsAt hq
          obtain ⟨_, _, _, _, _, q5⟩ := f2 q.1 hb
          refine ⟨fun e => q5 (S, lstObj acc0 cc0) (List.mem_append_right _ List.mem_cons_self) e.symm, fun e => ?_⟩
          obtain ⟨o, e1, _⟩ := al q.1 e
          exact (stat (hz := s₀.heap) (acc' := acc) (c' := cc) fr5 q.1 hb).2.2.2.2.2 (q.1, o) (List.mem_append_right _ (List.mem_cons_of_mem _ (List.mem_append_left _ (mem_pinsAt e e1)))) rfl
        refine ⟨f1, I7.bare, I7.nolimit, f2', fun b hb => ?_, ⟨acc, cc, pinS.1, ?_⟩, fun s8 z => ?_⟩
        · obtain ⟨o, e1, _⟩ := al b hb
          rw [e1]
          exact (I7.pin (b, o) (List.mem_append_right _ (List.mem_append_left _ (List.mem_cons_of_mem _ (List.mem_append_left _ (mem_pinsAt hb e1)))))).1
        · have e1 := r.length
          have e2 : acc.toList.length = acc.size := by simp
          omega
        · refine hkap .none s8 ?_
          refine seg_execs_nil (seg_again rfl ?_)
          have G8 := G7.woken hA hip al rv z
          obtain ⟨acc8, cc8, r8, I8⟩ := G8
          have keep8 : ∀ b ∈ fp, ∀ o, s5.heap.get? b = some o → s8.heap.get? b = some o ∧ H7 b = none := fun b hb o e1 => by
            have z8 := I8.pin (b, o) (List.mem_append_right _ (List.mem_cons_of_mem _ (List.mem_append_right _ (mem_pinsAt hb e1))))
            exact ⟨z8.1, z8.2.1⟩
          refine ih (i + 1) (ys ++ [y]) s8 s8 σ6 H7 (by rw [List.length_append, List.length_singleton]; omega) z.oth w7 ⟨acc8, cc8, r8, I8.pins_of fun p hp => I8.pin p (List.mem_append_right _ (by
            rcases List.mem_cons.mp hp with hp | hp
            · rw [hp]; exact List.mem_cons_self
            · rw [List.append_nil] at hp
              exact List.mem_cons_of_mem _ (List.mem_append_left _ hp)))⟩ (T.keep _ _ _ st5 fun b hb o e1 => (keep8 b hb o e1).1) fun b hb => ?_
          obtain ⟨o, e1, _⟩ := T.obj _ _ st5 b hb
          exact (keep8 b hb o e1).2
  exact loop sizeLine 0 [] s₀ s2 σ H2 (Nat.add_zero _) al w0 ⟨acc0, cc0, r0, I2⟩ st2 fun b hb => (f2 b hb).1
end
end Cor

set_option Elab.async false
set_option linter.all false
set_option maxRecDepth 100000
set_option maxHeartbeats 1000000
namespace Cor
open PySem PySem.Spec PyProof.Rows L2 GenW
/-! ### a generator def: for tg in iter: yield e -/
def FZ (P : Program) (w : World) (outer : List Env) (H : Hp) (sc : Shared) (Q : List V → Hp → Prop) (S : Addr) (Z : List Addr) (s₀ s1 : Shared) : Prop :=
  ∃ (H' : Hp) (ys : List V) (acc : Array Value) (c : Nat), s1.os = sc.os ∧ AllBare s1.gens ∧ Un (frs outer) [] H H' sc.heap s1.heap ∧ HOk P w H' s1.heap ∧ H' S = none ∧ s1.heap.get? S = some (lstObj acc c) ∧ Vals ys acc.toList ∧ ys.length ≤ sizeLine ∧ Q ys H' ∧ ∀ b ∈ Z, s1.heap.get? b = s₀.heap.get? b ∧ H' b = none
def RZ (P : Program) (w : World) (outer : List Env) (H : Hp) (sc : Shared) (Q : List V → Hp → Prop) (S : Addr) (Z : List Addr) : GenEnd := fun _ s₀ r s1 => ((r = .ok (.ret .none) ∨ r = .ok .next) ∧ FZ P w outer H sc Q S Z s₀ s1) ∨ ∃ e, r = .error e ∧ False
def GMadeZ (P : Program) (w : World) (k : Nat) (outer : List Env) (H : Hp) (s : Shared) (Q : List V → Hp → Prop) (u : Value) (s' : Shared) : Prop :=
  ∃ (a : Addr) (g : Nat) (c : Code), u = .ref a ∧ s.heap.objs.size ≤ a ∧ a < s'.heap.objs.size ∧ s'.heap.IsGen a g ∧ s'.gens[g]? = some (.fresh c) ∧ s'.os = s.os ∧ AllBare s'.gens ∧ s'.heap.NoLimit ∧ (∀ b o, s.heap.get? b = some o → s'.heap.get? b = some o) ∧
    ∀ (A : Around) (S : Addr) (Z : List Addr) (s2 : Shared), Room k A → A.frames = some outer → (∀ b, b = S ∨ b ∈ Z → s'.heap.objs.size ≤ b) → S ∉ Z → (∀ b o, s'.heap.get? b = some o → s2.heap.get? b = some o) → (∃ c, s2.heap.get? S = some (lstObj #[] c)) → AliveZ Z s2.heap → s2.os = s.os → AllBare s2.gens →
      Seg (model P w) A (RZ P w outer H s Q S Z) (YZ s S Z a g) sizeLine s2 c ((model P w).den c) [] s2
abbrev SpZ := List V → Hp → (List V → Hp → Prop) → Prop
structure GFnZ (P : Program) (w : World) (K : PySem.W.Frag) (mg : Str → Option Value) (base : Heap) (k : Nat) (f : Addr) (fd : FuncData) (ps : List Str) (sp : SpZ) : Prop where
  len : ∀ vs H Q, sp vs H Q → vs.length = ps.length
  run : ∀ (A : Around) (outer : List Env) (s : Shared) (H : Hp) (args : Args) (us : List Value) (vs : List V) (Q : List V → Hp → Prop), Room k A → Env0 P w K mg base A outer s H → BindsTo s fd args (ps.zip us) → Vals vs us → sp vs H Q →
    codeAny (model P w) A (.call (.ref f) args) (fun r s' => match r with | .ok (.ret u) => GMadeZ P w k outer H s Q u s' | _ => False) s
theorem gfnZ_of {P : Program} {w : World} {K : PySem.W.Frag} {mg : Str → Option Value} {base : Heap} {k : Nat} {f : Addr} {name qual : Str} {params : Arguments} {scope : Scope} {dV kV doc pm cdv ct oc : Value} {an od : Option Addr}
    {osl : Array (Option Value)} {N ps : List Str} {sp : SpZ} {tg iter e : Expr} {yp ep pos : Pos} (lk : K.lookup f = some ⟨oc, od, .func (PySem.W.fnOf name qual params [.For tg iter [.Expr (.Yield (some e) yp) ep] [] pos] scope dV kV doc pm an cdv ct), osl⟩) (hcd : PySem.W.codeIn K cdv qual = true) (S : GScope N ps scope)
    (len : ∀ vs H Q, sp vs H Q → vs.length = ps.length)
    (hs : ∀ (env : Env) x, foldedSetIterable iter env x = pure x) (hin : ∀ n, interactive (envOfC qual scope n f cdv) = false)
    (hbody : ∀ (A : Around) (outer : List Env) (s : Shared) (H : Hp) (vs : List V) (Q : List V → Hp → Prop) (pn : List (Addr × Obj)), Room k (A.deeper (envOfC qual scope s.heap.objs.size f cdv)) → sp vs H Q →
      ∃ wi gT te, PI (gcxOf P w K mg base N qual scope f cdv A outer s H (fun _ _ _ => False) pn).nox tg iter wi ∧ PG (gcxOf P w K mg base N qual scope f cdv A outer s H (fun _ _ _ => False) pn).nox tg gT ∧ PE (gcxOf P w K mg base N qual scope f cdv A outer s H (fun _ _ _ => False) pn).nox e te ∧ tGForY wi gT te Q (start N vs) H) :
    GFnZ P w K mg base (k + 1) f (PySem.W.fnOf name qual params [.For tg iter [.Expr (.Yield (some e) yp) ep] [] pos] scope dV kV doc pm an cdv ct) ps sp := by
  refine ⟨len, fun A outer s H args us vs Q hr e0 hb r hsp => ?_⟩
  have hl := len _ _ _ hsp
  have KX : K.In s.heap := e0.mod.kin.keeps fun b o e => (e0.bs b o e).1
  have lim : s.heap.NoLimit := e0.mod.nolimit.keeps fun b o e => (e0.bs b o e).1
  have hkind : ∀ y ∈ ps.zip us, scope.names.lookup y.1 = some .local ∨ (scope.names.lookup y.1 = some .cell ∧ ((cellsFrom (s.heap.objs.size + 1) scope.names []).lookup y.1).isSome = true) := fun ⟨n, v⟩ hy => by
    rcases S.par n (List.of_mem_zip hy).1 with q | q
    · exact .inl q
    · exact .inr ⟨q, PySem.W.cellsFrom_some _ _ _ (.inl q)⟩
  refine codeAny_call_generator hr.depth (KX _ _ lk) rfl S.co S.gen rfl (PySem.W.codeRec_of KX hcd) (hb _ _ _ _ ?_)
  refine wpAny_newFunctionEnv_cells S.kind hkind fun env he s1 x => ?_
  subst he
  have lim1 : s1.heap.NoLimit := lim.keeps x.toInCall.keep
  refine ⟨lim1, ?_⟩
  obtain ⟨h1, tk, es1, hk1⟩ := x.done
  have os1 : s1.os = s.os := by rw [es1]
  have gen1 : s1.gens = s.gens := by rw [es1]
  have lt1 : s.heap.objs.size < s1.heap.objs.size := x.toInCall.ns.lt
  have sz1 : s.heap.objs.size ≤ s1.heap.objs.size := Nat.le_of_lt lt1
  have kp1 : ∀ b o, s.heap.get? b = some o → s1.heap.get? b = some o := x.toInCall.keep
  have main : ∀ (go : Obj) (nm qn : Value) (tk2 : Nat), go.cls = .type "generator" → go.data = .fields #[.int s1.gens.size 0, nm, qn] → go.slots = #[] → (∀ h : Heap, (h.push go).get? h.objs.size = some go) →
      GMadeZ P w (k + 1) outer H s Q (.ref s1.heap.objs.size) { s1 with gens := s1.gens.push (.fresh (.func [.For tg iter [.Expr (.Yield (some e) yp) ep] [] pos] (envOfC qual scope s.heap.objs.size f cdv))), toks := tk2, heap := s1.heap.push go } := by
    intro go nm qn tk2 hgc hgd0 hgs hgp
    have hgen : ∀ h : Heap, h.get? s1.heap.objs.size = some go → h.IsGen s1.heap.objs.size s1.gens.size := fun h e => ⟨go, nm, qn, e, hgc, hgd0, hgs⟩
    have hpushed : (s1.heap.push go).get? s1.heap.objs.size = some go := hgp _
    refine ⟨s1.heap.objs.size, s1.gens.size, _, rfl, sz1, ?_, hgen _ hpushed, Array.getElem?_push_size .., os1, ?_, lim1.keeps fun b o e => Heap.get?_push_of_some _ e, fun b o e => Heap.get?_push_of_some _ (kp1 b o e), ?_⟩
    · show _ < (s1.heap.push _).objs.size
      rw [Heap.size_push]; exact Nat.lt_succ_self _
    · exact AllBare.push (by rw [gen1]; exact e0.bare) rfl
    intro Aw Sx Zx s2 hrw hfr hSx hSZ hk2 hSo hal hos hba
    have e0w : Env0 P w K mg base Aw outer s H := ⟨hfr, e0.mod, e0.bs, e0.bsz, e0.funs, e0.frf, e0.hok, e0.bare⟩
    obtain ⟨wi, gT, te, hi, hg, hee, hq⟩ := hbody Aw outer s H vs Q [(s1.heap.objs.size, go)] (hrw.deeper _) hsp
    have I1 : Inv (gcxOf P w K mg base N qual scope f cdv Aw outer s H (fun _ _ _ => False) []) [] (start N vs) H s1 := inv_startG S hrw.hd e0w hl r x
    have kp2 : ∀ b o, s1.heap.get? b = some o → s2.heap.get? b = some o := fun b o e => hk2 b o (Heap.get?_push_of_some _ e)
    have I2 : Inv (gcxOf P w K mg base N qual scope f cdv Aw outer s H (fun _ _ _ => False) []) [] (start N vs) H s2 :=
      I1.call' (ch := []) (hos.trans os1.symm) (Un.kept kp2) (I1.hok.kept kp2) hba fun b z => by simp at z
    have hyg : ∀ b, b = Sx ∨ b ∈ Zx → s1.heap.objs.size < b := fun b hb => by
      have h' : (s1.heap.push go).objs.size ≤ b := hSx b hb
      rw [Heap.size_push] at h'
      exact h'
    obtain ⟨cS, heS⟩ := hSo
    have hea : s2.heap.get? s1.heap.objs.size = some go := hk2 s1.heap.objs.size go hpushed
    have hgd : ∀ v, go.data ≠ .cell v := fun v q => by rw [hgd0] at q; cases q
    have young : ∀ b, s1.heap.objs.size ≤ b → H b = none ∧ b ≠ s.heap.objs.size ∧ b ∉ frs outer ∧ s.heap.objs.size ≤ b ∧ ∀ y c, (cellsFrom (s.heap.objs.size + 1) scope.names []).lookup y = some c → c ≠ b := fun b hb => by
      refine ⟨I1.hok.fresh hb, Nat.ne_of_gt (Nat.lt_of_lt_of_le lt1 hb), I1.nofs hb, Nat.le_trans sz1 hb, fun y c e z => ?_⟩
      obtain ⟨v, ob, ho, _⟩ := I1.cell y c e
      have := Heap.lt_size ho
      rw [z] at this
      exact absurd (Nat.lt_of_lt_of_le this hb) (Nat.lt_irrefl _)
    have I3 : Inv (gcxOf P w K mg base N qual scope f cdv Aw outer s H (fun _ _ _ => False) [(s1.heap.objs.size, go)]) ((Sx, lstObj #[] cS) :: (pinsAt Zx s2.heap ++ [])) (start N vs) H s2 := by
      refine Inv.pinnedG I2 fun p hp => ?_
      rcases List.mem_append.mp hp with z | z
      · rw [List.mem_singleton.mp z]
        obtain ⟨y1, y2, y3, _, _⟩ := young s1.heap.objs.size (Nat.le_refl _)
        exact ⟨hea, y1, y2, y3, hgd⟩
      rcases List.mem_cons.mp z with z | z
      · rw [z]
        obtain ⟨y1, y2, y3, _, _⟩ := young Sx (Nat.le_of_lt (hyg Sx (.inl rfl)))
        exact ⟨heS, y1, y2, y3, fun v q => by cases q⟩
      · rw [List.append_nil] at z
        obtain ⟨hb, e1⟩ := of_pinsAt z
        obtain ⟨y1, y2, y3, _, _⟩ := young p.1 (Nat.le_of_lt (hyg p.1 (.inr hb)))
        obtain ⟨o, e2, d2⟩ := hal p.1 hb
        rw [e1] at e2
        cases e2
        exact ⟨e1, y1, y2, y3, d2⟩
    have hA : ApartZ (gcxOf P w K mg base N qual scope f cdv Aw outer s H (fun _ _ _ => False) [(s1.heap.objs.size, go)]).nox Sx Zx := by
      refine ⟨hSZ, fun b hb => ?_, fun p hp => ?_⟩
      · obtain ⟨_, y2, _, y4, y5⟩ := young b (Nat.le_of_lt (hyg b hb))
        exact ⟨y4, y2, y5⟩
      · rw [List.mem_singleton.mp hp]
        exact ⟨Nat.ne_of_lt (hyg Sx (.inl rfl)), fun z => absurd (hyg _ (.inr z)) (Nat.lt_irrefl _)⟩
    refine seg_func (seg_execs_cons ?_)
    refine seg_gfor (X := (gcxOf P w K mg base N qual scope f cdv Aw outer s H (fun _ _ _ => False) [(s1.heap.objs.size, go)]).nox) rfl (fun _ _ z => z) hA over_func rfl rfl rfl hi hg hee (hs _) S.co (hin _) (fun {pins σ H' s'} I => ?_) (fun n ys s₀ s' σ' H' hn al hG hQ => ?_) hq ⟨#[], cS, .nil, I3.wish _⟩ hal
    · exact ⟨I.os, hgen _ (I.pin (s1.heap.objs.size, go) (List.mem_append_left _ (List.mem_singleton.mpr rfl))).1⟩
    · obtain ⟨acc, cc, ra, Jv⟩ := hG
      have pinS := Jv.pin (Sx, lstObj acc cc) (List.mem_append_right _ List.mem_cons_self)
      refine seg_execs_nil (seg_end (.ok (.ret .none)) (.inl ⟨.inl rfl, H', ys, acc, cc, Jv.os, Jv.bare, Jv.base, Jv.hok, pinS.2.1, pinS.1, ra, by omega, hQ, fun b hb => ?_⟩))
      obtain ⟨o, e1, _⟩ := al b hb
      have pz := Jv.pin (b, o) (List.mem_append_right _ (List.mem_cons_of_mem _ (List.mem_append_left _ (mem_pinsAt hb e1))))
      exact ⟨by rw [e1]; exact pz.1, pz.2.1⟩
  exact main _ _ _ _ rfl rfl rfl fun h => Heap.get?_push_size _ rfl
end Cor

set_option Elab.async false
set_option linter.all false
set_option maxRecDepth 100000
set_option maxHeartbeats 1000000
namespace Cor
open PySem PySem.Spec PyProof.Rows L2 GenW
/-! ### [x for x in o.m()], m a generator -/
section
variable {X : Cx} {k : Nat} {f C : Addr} {fd : FuncData} {ps : List Str} {sp : SpZ} {m : Str} {pos' apos : Pos} {o : Expr} {ta : TE}
structure PGenZ (X : Cx) (k : Nat) (e : Expr) (tg : TGen) : Prop where
  run : ∀ (pins : List (Addr × Obj)) (s : Shared) (σ : L2.St) (H : Hp) (cont : List V → Hp → Prop), Inv X pins σ H s → tg σ H cont → wpAny (model X.prog X.w) X.A (eval e X.env)
    (fun u s' => ∃ H1 sc, Inv X pins σ H1 sc ∧ GMadeZ X.prog X.w k X.stack H1 sc cont u s') X.xe s
theorem run_gfnZ {pins : List (Addr × Obj)} {σ : L2.St} {H : Hp} {s : Shared} {us : List Value} {vs : List V} {cont : List V → Hp → Prop} {E1 : Value → Shared → Prop} (F : GFnZ X.prog X.w X.K X.mg X.base k f fd ps sp) (hr : Room k X.A) (hb : Binds X.K fd ps [])
    (I : Inv X pins σ H s) (r : Vals vs us) (h : sp vs H cont) :
    wpAny (model X.prog X.w) X.A (call (.ref f) us) (fun u s' => ∃ H1 sc, Inv X pins σ H1 sc ∧ GMadeZ X.prog X.w k X.stack H1 sc cont u s') E1 s := by
  have hl2 : (us ++ ([] : List Value)).length = ps.length := by rw [List.append_nil, ← r.length]; exact F.len _ _ _ h
  refine wpAny_call (codeAny_mono (F.run X.A X.stack s H ⟨us, []⟩ (us ++ []) vs cont hr I.env0 (hb s us I.kIn hl2) (by rw [List.append_nil]; exact r) h) fun r s' hq => ?_)
  cases r with
  | error e => exact False.elim hq
  | ok fl =>
    cases fl with
    | ret u => exact ⟨H, s, I, hq⟩
    | next => exact False.elim hq
    | brk => exact False.elim hq
    | cont => exact False.elim hq
def tMethZ (m : Str) (C : Addr) (sp : SpZ) (ta : TE) : TGen := fun σ H cont => ta σ H fun x H1 => ∃ a dx fs, x = .ref a ∧ H1 a = some (.ins C dx fs) ∧ fs.lookup m = none ∧ sp [x] H1 cont
/-- o.m() of a generator method -/
theorem pgenZ_meth0 {pl : Sem Bool} (he : PE X o ta) (c : Cls X.K C) (hm : Meth X.K C m f) (F : GFnZ X.prog X.w X.K X.mg X.base k f fd ps sp) (hr : Room k X.A) (hb : Binds X.K fd ps [])
    (ht : eval (.Call (.Attribute o m apos) [] [] pos') X.env = (do
      let ov ← eval o X.env
      standAt apos.atName
      let (f, first) ← holding [ov] (getMethod ov m pl)
      callWith pos' f first (backTo pos' (starEach [] X.env)) (backToKw pos' (keywordEach [] X.env))) := by rfl) :
    PGenZ X k (.Call (.Attribute o m apos) [] [] pos') (tMethZ m C sp ta) := by
  refine ⟨fun pins s σ H cont I h => ?_⟩
  refine PySem.W.methodCall_KW (pl := pl) (thn (he.run pins s σ H _ I h) fun u s1 ⟨x, H1, I1, rx, a, dx, fs, ex, ea, l, q⟩ => ?_) ht
  subst ex
  obtain rfl : u = Value.ref a := rx
  refine getmeth_ok I1 ea c hm l ?_
  exact PySem.W.callWith_K0 (first := [.ref a]) I1.kIn hm.kp (run_gfnZ (us := [.ref a]) (vs := [.ref a]) F hr hb I1 (.cons rfl .nil) q)
theorem yz_mono {sc s₀ s1 : Shared} {S a : Addr} {Z : List Addr} {g n : Nat} {v : Value} {kap kap' : Resume → Shared → Prop} (h : YZ sc S Z a g n s₀ v s1 kap) (hk : ∀ r s, kap r s → kap' r s) : YZ sc S Z a g n s₀ v s1 kap' := by
  obtain ⟨h1, h2, h3, h4, h5, h6, h7⟩ := h
  exact ⟨h1, h2, h3, h4, h5, h6, fun s' z => hk _ _ (h7 s' z)⟩
theorem ns_new {h : Heap} {C : Addr} (e : h.get? C = some { cls := .type "dict", data := .dict #[] }) : h.Ns C fun _ => none := by
  exact ⟨_, #[], _, e, rfl, (fun x hx => by simp at hx), fun name => rfl⟩
def tLcZ (tg : TGen) : TE := fun σ H Q => tg σ H fun out H2 => ∀ p, H2 p = none → Q (.ref p) (upd H2 p (.lst out))
theorem letGo_name {M : Model} {A : Around} {E : Value → Shared → Prop} {s : Shared} {x : Str} {p : Pos} {it u : Value} {Q : Unit → Shared → Prop} (h : Q () s) : wpAny M A (letOwnedTupleGo (.Name x p) it u) Q E s := by
  unfold letOwnedTupleGo
  exact wpAny_pure h
theorem pe_lcZ {x : Str} {p1 p2 pos : Pos} {iter : Expr} {scope : Scope} {own : List (Str × Nat)} {tg : TGen} (hc : X.calm = true) (hi : PGenZ X k iter tg) (hr : Room (k + 1) X.A) (ok : BlkOk X.N X.env.scope scope own) (hx : scope.names.lookup x = some .local)
    (hd : (x == ("__debug__" : Str)) = false := by decide) (hs : ∀ x, foldedSetIterable iter X.env x = pure x := by intro _; rfl) :
    PE X (.ListComp (.Name x p1) [⟨.Name x p2, iter, [], 0⟩] scope pos) (tLcZ tg) := by
  refine ⟨fun pins s σ H Q I h => ?_⟩
  rw [eval_ListComp]
  have hfree : ∀ y ∈ scope.names, y.2 = .free → ∃ c, X.env.cells.lookup y.1 = some c := fun y hy e => by
    rcases ok.free y hy e with k | k
    · exact I.ok.has _ (.inl k)
    · exact I.ok.has _ (.inr k)
  refine wpAny_comprehension_free (use := none) rfl hs (closure_ok hfree) ok.kind (fun y hy e => by rw [ok.uniq y hy, e])
    (thn (hi.run pins s σ H _ I h) fun u s1 ⟨H1, sc, I1, hG⟩ => ?_)
  obtain ⟨a, g, cd, rfl, ha1, ha2, hgen, hgs, hos, hb, hl, hkp, wake⟩ := hG
  refine wpAny_pyIter_gen hgen ?_
  refine wpAny_newObj_type (newEnv_comp ?_) (by show 0 ≤ sizeLine; decide)
  generalize hD : s1.heap.objs.size = D
  generalize hs3 : ({ s1 with heap := s1.heap.push { cls := .type "list", data := .seq ([] : List Value).toArray } } : Shared) = s3
  have h3 : s3.heap = s1.heap.push { cls := .type "list", data := .seq ([] : List Value).toArray } := by rw [← hs3]
  generalize hC : s3.heap.objs.size = Cm
  have hCD : Cm = D + 1 := by rw [← hC, h3, Heap.size_push, hD]
  generalize hs4 : ({ s3 with heap := pushCells (s3.heap.push { cls := .type "dict", data := .dict #[] }) scope.names } : Shared) = s4
  have h4 : s4.heap = pushCells (s3.heap.push { cls := .type "dict", data := .dict #[] }) scope.names := by rw [← hs4]
  have k13 : ∀ b ob, s1.heap.get? b = some ob → s3.heap.get? b = some ob := fun b ob e => by rw [h3]; exact Heap.get?_push_of_some _ e
  have k34 : ∀ b ob, s3.heap.get? b = some ob → s4.heap.get? b = some ob := fun b ob e => by rw [h4]; exact pushCells_keeps _ _ _ _ (Heap.get?_push_of_some _ e)
  have k14 : ∀ b ob, s1.heap.get? b = some ob → s4.heap.get? b = some ob := fun b ob e => k34 b ob (k13 b ob e)
  have eD4 : s4.heap.get? D = some (lstObj #[] 0) := by
    refine k34 _ _ ?_
    rw [h3, ← hD]
    exact Heap.get?_push_size _ rfl
  have eC4 : s4.heap.get? Cm = some { cls := .type "dict", data := .dict #[] } := by
    rw [h4, ← hC]
    exact pushCells_keeps _ _ _ _ (Heap.get?_push_size _ rfl)
  have os4 : s4.os = sc.os := by rw [← hs4, ← hs3]; exact hos
  have ge4 : s4.gens = s1.gens := by rw [← hs4, ← hs3]
  have nDC : D ≠ Cm := by omega
  have g4 : s4.heap.IsGen a g := hgen.keeps k14
  have l4 : s4.heap.NoLimit := hl.keeps k14
  show codeAny _ _ (.compStart (.ListComp (.Name x p1) [⟨.Name x p2, iter, [], 0⟩] scope pos) 0 (.ref a) (.ref D) (compEnvC scope (cellsFrom (Cm + 1) scope.names (cloFrom X.env.cells scope.names [])) Cm X.env)) (compPost (model X.prog X.w) X.A X.xe none (EP X pins σ Q) (.ref D) Cm) s4
  have cL : (compEnvC scope (cellsFrom (Cm + 1) scope.names (cloFrom X.env.cells scope.names [])) Cm X.env).locals = Cm := rfl
  have cK : (compEnvC scope (cellsFrom (Cm + 1) scope.names (cloFrom X.env.cells scope.names [])) Cm X.env).kindOf x = some .local := lookup_relabel_local hx
  have cF : (compEnvC scope (cellsFrom (Cm + 1) scope.names (cloFrom X.env.cells scope.names [])) Cm X.env).scope.kind = .function := ok.kind
  generalize compEnvC scope (cellsFrom (Cm + 1) scope.names (cloFrom X.env.cells scope.names [])) Cm X.env = ce at cL cK cF ⊢
  have hcls : (ce.scope.kind == .class || (ce.scope.kind == .module && ce.locals != ce.globals)) = false := by rw [cF]; rfl
  have hh : X.A.handled = none := I.ok.hd hc
  have hdep : X.A.depth < recursionLimit := by have := hr.dp; omega
  have szD : sc.heap.objs.size ≤ D := by rw [← hD]; exact Nat.le_trans ha1 (Nat.le_of_lt ha2)
  have aD : a ≠ D := by rw [← hD]; exact Nat.ne_of_lt ha2
  have ltD : a < D := by rw [← hD]; exact ha2
  have leDC : D ≤ Cm := by omega
  have aC : a ≠ Cm := Nat.ne_of_lt (Nat.lt_of_lt_of_le ltD leDC)
  have stD : cStatics ≠ D ∧ cStatics ≠ Cm := by
    obtain ⟨mc1, hn1, _⟩ := id hl
    have h1 : cStatics < D := by rw [← hD]; exact hn1.lt
    exact ⟨Nat.ne_of_lt h1, Nat.ne_of_lt (Nat.lt_of_lt_of_le h1 leDC)⟩
  have loop : codeAny (model X.prog X.w) X.A (.compLoop (.ListComp (.Name x p1) [⟨.Name x p2, iter, [], 0⟩] scope pos) 0 (.ref a) (.ref D) ce) (compPost (model X.prog X.w) X.A X.xe none (EP X pins σ Q) (.ref D) Cm) s4 := by
    refine compLoop_any (fun n s' => ∃ gs mC, s'.heap.IsGen a g ∧ s'.heap.NoLimit ∧ s'.gens[g]? = some gs ∧ s'.heap.Ns Cm mC ∧ gs.Goes (model X.prog X.w) X.A.in1 (RZ X.prog X.w X.stack H1 sc (fun out H2 => ∀ p, H2 p = none → Q (.ref p) (upd H2 p (.lst out))) D [Cm]) (YZ sc D [Cm] a g) n (.send .none) (s'.setGen g .running)) ?_ sizeLine ⟨.fresh cd, fun _ => none, g4, l4, by rw [ge4]; exact hgs, ?_, ?_⟩
    · rintro n s5 ⟨gs, mC, g5, l5, e5, n5, go5⟩
      have hgl : g < s5.gens.size := (Array.getElem?_eq_some_iff.mp e5).1
      refine wpAny_gsz (n := g + 1) hgl (wpAny_mono (next_genG (A := X.A) (E := fun _ _ => False) (Q := fun r s' => match r with
          | none => ∃ s6 : Shared, ∃ s₀ : Shared, FZ X.prog X.w X.stack H1 sc (fun out H2 => ∀ p, H2 p = none → Q (.ref p) (upd H2 p (.lst out))) D [Cm] s₀ s6 ∧ s₀.heap = s5.heap ∧ ∃ h', (∀ b ob, s6.heap.get? b = some ob → h'.get? b = some ob) ∧ s' = { s6.setGen g .finished with heap := h' }
          | some v => ∃ (s6 : Shared) (gs' : GenState), gs'.bare = true ∧ s' = s6.setGen g gs' ∧ YZ sc D [Cm] a g (n - 1) (s5.setGen g .running) v s6 (fun r' s'' => ∃ m, n = m + 1 ∧ gs'.Goes (model X.prog X.w) X.A.in1 (RZ X.prog X.w X.stack H1 sc (fun out H2 => ∀ p, H2 p = none → Q (.ref p) (upd H2 p (.lst out))) D [Cm]) (YZ sc D [Cm] a g) m r' s'')) hh l5 hdep g5 e5 (F := fun _ s₀ s1 => FZ X.prog X.w X.stack H1 sc (fun out H2 => ∀ p, H2 p = none → Q (.ref p) (upd H2 p (.lst out))) D [Cm] s₀ s1) (Er := fun _ _ => False) go5 (fun v s6 gs' hb6 hv => ⟨s6, gs', hb6, rfl, yz_mono hv fun r' s'' q => by
          cases n with
          | zero => exact q.elim
          | succ m => exact ⟨m, rfl, q⟩⟩) (fun s6 hF h' hk => ⟨s6, _, hF, rfl, h', hk, rfl⟩) fun _ _ z => z.elim) (fun r s6 hr6 hsz => ?_) fun _ _ z => z.elim)
      cases r with
      | none =>
        obtain ⟨s6, s₀, ⟨H', ys, acc, c, o1, o2, o3, o4, o5, o6, o7, o8, o9, o10⟩, hs0, h', hk, rfl⟩ := hr6
        obtain ⟨eZ, nZ⟩ := o10 Cm (List.mem_singleton.mpr rfl)
        have nC6 : h'.Ns Cm mC := (n5.at' fun ob e => by rw [eZ, hs0]; exact e).at' fun ob e => hk _ _ e
        refine ⟨mC, nC6, fun h'' sb => ?_⟩
        have I7 : Inv X pins σ (upd H' D (.lst ys)) { s6.setGen g .finished with heap := h' } := I1.drained szD o8 (hk _ _ o6) o7 .nil o1 (allBare_setGen o2 rfl) (o3.trans (Un.kept hk)) (o4.kept hk) o5
        have nC7 : (upd H' D (.lst ys)) Cm = none := by rw [upd_ne nDC.symm]; exact nZ
        obtain ⟨f0, f1, f2, f3, f4, f5⟩ := I1.fpOk (pins := pins) (b := Cm) (by omega) nC7
        exact ⟨.ref D, _, I7.turned (t' := s6.toks) (fun b ob hb e => (sb.2 b hb).trans e) f0 f1 f3 f4 f5, rfl, o9 D o5⟩
      | some v =>
        obtain ⟨s6, gs', hb6, rfl, y1, y2, y3, y4, y5, ⟨acc, c, y6, y7⟩, y8⟩ := hr6
        have hsz6 : g < s6.gens.size := by
          have q : (s6.setGen g gs').gens.size = s6.gens.size := setGen_size _ _ _
          omega
        have nC6 : s6.heap.Ns Cm mC := n5.at' fun ob e => by rw [y5 Cm (List.mem_singleton.mpr rfl)]; exact e
        refine letGo_name ?_
        refine wpAny_assign_Name (wpAny_storeName_local (m := mC) cK (by rw [cL]; exact nC6) (fun h' nC7 sb => ?_) hcls)
        rw [cL] at nC7 sb
        refine wpAny_tests_nil ?_
        rw [if_pos rfl]
        refine wpAny_Name (wpAny_loadName_local (m := fun y => if y = x then some v else mC y) cF cK (by rw [cL]; exact nC7) (if_pos rfl) ?_) hd
        have eD7 : h'.get? D = some (lstObj acc c) := (sb.2 D nDC).trans y6
        have accl : acc.size < sizeLine := by omega
        refine append_at (hsz := Nat.le_of_lt accl) eD7 fun h'' sb2 eD8 => ?_
        have key : ∀ (s9 : Shared), s9.heap = h'' → s9.os = s6.os → AllBare s9.gens → SleptZ D [Cm] v s6 s9 := fun s9 e1 e2 e3 => by
          refine ⟨e2, e3, fun b ob hb hbz e => ?_, fun acc' c' e => ?_, fun b hb => ?_⟩
          · rw [e1]
            exact (sb2.2 b hb).trans ((sb.2 b fun z => hbz (by rw [z]; exact List.mem_singleton.mpr rfl)).trans e)
          · rw [y6] at e
            cases e
            exact ⟨_, by rw [e1]; exact eD8⟩
          · rw [List.mem_singleton.mp hb]
            obtain ⟨oC, es, ep, ho, hod, _⟩ := id nC7
            refine ⟨oC, by rw [e1]; exact (sb2.2 Cm nDC.symm).trans ho, fun u q => ?_⟩
            rw [hod] at q
            cases q
        have bare6 : AllBare (s6.setGen g gs').gens := allBare_setGen y2 hb6
        have setset : AllBare ((s6.setGen g gs').setGen g .running).gens := allBare_setGen bare6 rfl
        have k8 : ∀ b ob, b ≠ D → b ≠ Cm → s6.heap.get? b = some ob → h''.get? b = some ob := fun b ob h1 h2 e => (sb2.2 b h1).trans ((sb.2 b h2).trans e)
        obtain ⟨m', rfl, go8⟩ := y8 (({ (s6.setGen g gs') with heap := h'', toks := (s6.setGen g gs').toks + 1 } : Shared).setGen g .running) (key _ rfl rfl setset)
        refine ⟨m', Nat.lt_succ_self _, gs', _, ?_, ?_, setGen_at hsz6, nC7.at' fun ob e => (sb2.2 Cm nDC.symm).trans e, go8⟩
        · obtain ⟨og, nm, qn, ho, rr⟩ := y4
          exact ⟨og, nm, qn, k8 a og aD aC ho, rr⟩
        · obtain ⟨mc, hns, hnn⟩ := y3
          exact ⟨mc, hns.at' fun ob e => k8 _ ob stD.1 stD.2 e, hnn⟩
    · exact ns_new eC4
    · refine ⟨rfl, ?_⟩
      refine wake X.A.in1 D [Cm] _ ⟨hh, ?_, ?_⟩ I1.ok.frames (fun b hb => ?_) (fun z => nDC (List.mem_singleton.mp z)) k14 ⟨0, eD4⟩ (fun b hb => ?_) os4 (allBare_setGen (by rw [ge4]; exact hb) rfl)
      · have := hr.dp
        show X.A.depth + 3 * k + 5 < _
        omega
      · have := hr.un
        show X.A.units + 1 + 16 * k + 200 < _
        omega
      · rcases hb with rfl | hb
        · exact Nat.le_of_eq hD
        · rw [List.mem_singleton.mp hb, hD]
          omega
      · rw [List.mem_singleton.mp hb]
        exact ⟨_, eC4, fun u q => by cases q⟩
  exact codeAny_compStart_list loop (wpAny_pyIter_gen g4 loop)
end
end Cor

set_option Elab.async false
set_option linter.all false
set_option maxRecDepth 100000
set_option maxHeartbeats 1000000
namespace Law
open PySem PySem.Spec PyProof.Rows L2 Cor
abbrev sIsPath : Stmt := topS 17
theorem scIsPath : FnScope ["value", "name"] ["value"] (defScope sIsPath) := ⟨rfl, rfl, rfl, by decide +kernel, rfl, by decide +kernel, by decide +kernel⟩
def spIsPath : Sp := fun vs H Q _ => ∃ (a : Addr) (q : List Str), vs = [.ref a] ∧ H a = some (.tup (q.map V.str)) ∧ q.length ≤ 1000 ∧ (∀ n ∈ q, nameB n = true) ∧ ∀ H', Same H H' → Q (.bl true) H'
section
variable {P : Program} {w : World} {K : PySem.W.Frag} {mg : Str → Option Value} {base : Heap}
theorem ok_isPath {f : Addr} {fd : FuncData} (F : Fun K "is_path" "is_path" sIsPath f fd) (T : GloP K mg) (dn : Df P w K mg base "is_name" 1 ["text"] spIsName) : FnOk P w K mg base CX0 2 f fd ["value"] spIsPath := by
  refine F.ok scIsPath (k := 1) (fun vs H Q E h => ?_) (fun cdv A outer s H vs Q E hr h => ?_)
  · obtain ⟨a, q, rfl, _⟩ := h
    rfl
  · obtain ⟨a, q, rfl, ea, ql, qn, q1⟩ := h
    refine ⟨_, (pss_one (ps_ret (pe_and (pe_callB (id := "isinstance") (show CallR _ (.builtin "isinstance") (rIsi K) from call_isi) (by rfl) T.isinstance (by decide +kernel) (pa_cons (pv 0) (pa_cons (pe_bltn (v := .ty "tuple") (by rfl) T.tuple (by decide +kernel) rfl) pa_nil))) (pe_one (pe_callB (cr_all rfl) (by rfl) T.all (by decide +kernel) (pa_cons (pe_lc (own := [("name", 1)]) (g := gName 1) (by rfl) scIsPath.nd (pi_tup (pv 0)) (blkOk_by (own := [("name", 1)]) (N := ["value", "name"]) (sc := defScope sIsPath) (by decide +kernel)) (fun _ _ _ _ _ => (pg_name (i := 1) scIsPath.nd rfl (Or.inl rfl))) (fun _ _ _ _ _ => pts_nil) (fun _ _ _ _ _ => (pe_and (pe_callB (id := "isinstance") (show CallR _ (.builtin "isinstance") (rIsi K) from call_isi) (by rfl) T.isinstance (by decide +kernel) (pa_cons (pv 1) (pa_cons (pe_bltn (v := .ty "str") (by rfl) T.str (by decide +kernel) rfl) pa_nil))) (pe_one (pe_df (E := E0) dn hr (by rfl) (pa_cons (pv 1) pa_nil)))))) pa_nil)))))), ?_⟩
    refine ⟨_, rfl, _, _, _, _, _, rfl, .ty "tuple", .base (.tup ea), kit_ty (r := true) (by decide +kernel), true, rfl, ?_⟩
    refine ⟨_, rfl, a, rfl, ⟨_, SqT.of ea⟩, fun D nD => lc_tup (xs := q.map V.str) (fun i H' => Same H H' ∧ i ≤ q.length ∧ H' D = some (.lst ((List.replicate i true).map V.bl))) ?_ ?_ ?_ ?_⟩
    · exact ⟨same_upd nD, Nat.zero_le _, upd_same⟩
    · rintro i H' _ ⟨sx, _⟩
      exact SqT.of (sx _ _ ea)
    · rintro i v H2 hv ⟨sx, hi, eD⟩
      rw [List.getElem?_map] at hv
      obtain ⟨n, hn, rfl⟩ := Option.map_eq_some_iff.mp hv
      have hil : i < q.length := (List.getElem?_eq_some_iff.mp hn).1
      have hnm := qn n (List.mem_of_getElem? hn)
      refine ⟨rfl, _, rfl, _, _, _, _, _, rfl, .ty "str", .base (.str n), kit_ty (r := true) (by decide +kernel), true, rfl, ?_⟩
      refine ⟨_, rfl, n, rfl, Nat.le_trans (name_len hnm) (by decide), fun H3 s3 => ?_⟩
      rw [hnm]
      refine ⟨_, s3 _ _ eD, ?_, fun b o z => ?_, hil, ?_⟩
      · rw [List.length_map, List.length_replicate]
        exact Nat.lt_of_le_of_lt (Nat.le_trans hi ql) (by decide)
      · rw [upd_ne (ne_of_none z nD)]
        exact s3 b o (sx b o z)
      · rw [upd_same, List.replicate_succ', List.map_append]
        rfl
    · rintro H2 ⟨sx, _, eD⟩
      refine ⟨D, _, rfl, SqL.of eD, ?_⟩
      rw [show (List.replicate (List.map V.str q).length true).all id = true from List.all_eq_true.mpr fun x hx => List.eq_of_mem_replicate hx]
      exact q1 H2 sx
end
/-! ### the rooms of a store -/
/-- the spot of a room, by its key -/
theorem PlainAt.cell {P : Program} {w : World} {CP CS : Addr} {H : Hp} {a : Addr} {rs : List Rw} (h : PlainAt P w CP CS H a rs) (ne : rs ≠ []) : ∃ dx d es, H a = some (.ins CP dx [("spots", .ref d), ("entered", .int 0)]) ∧ H d = some (DN P w d es) ∧ KeysN H es ∧
    ∀ r ∈ rs, ∃ e dd kvs, getN es r.1 = some e ∧ (∃ dx, H e.2.2 = some (.ins CS dx (spotF (.int r.2.1) (.str r.2.2) dd))) ∧ H dd = some (.dK kvs) ∧ DoorsAt H r.1 kvs (kids r.1 rs) := by
  obtain ⟨dx, d, cs, ea, st, hcs, good⟩ := h
  have at0 : H d = some (DN P w d (cs.map entC)) := st.at_.elim id fun z => absurd (by rw [← hcs, z.2]; rfl) ne
  have ndp : ((cs.map entC).map (·.1)).Nodup := by
    have h1 := good_nodup good
    rw [← hcs, List.map_map] at h1
    rw [List.map_map]
    exact h1
  refine ⟨dx, d, cs.map entC, ea, at0, st.keys, fun r hr => ?_⟩
  rw [← hcs] at hr
  obtain ⟨c, hc, rfl⟩ := List.mem_map.mp hr
  obtain ⟨_, esp, kvs, ekv, hdoors⟩ := st.cells c hc
  rw [hcs] at hdoors
  exact ⟨entC c, c.2.2.2, kvs, getN_of (e := entC c) ndp (List.mem_map.mpr ⟨c, hc, rfl⟩), esp, ekv, hdoors⟩
abbrev sFound : Stmt := inClass (topS 22) 2
theorem scFound : FnScope ["self", "path", "room", "name"] ["self", "path"] (defScope sFound) := ⟨rfl, rfl, rfl, by decide +kernel, rfl, by decide +kernel, by decide +kernel⟩
def spFound (P : Program) (w : World) (CP CS : Addr) : Sp := fun vs H Q _ => ∃ (a pa : Addr) (rs : List Rw) (q : List Str), vs = [.ref a, .ref pa] ∧ PlainAt P w CP CS H a rs ∧ Beg rs ∧ H pa = some (.tup (q.map V.str)) ∧ q ∈ rs.map (·.1) ∧
  ∀ k H', Same H H' → RoomT H' k q → Q (.ref k) H'
section
variable {P : Program} {w : World} {K : PySem.W.Frag} {mg : Str → Option Value} {base : Heap} {CS CP : Addr}
theorem ok_found {f : Addr} {fd : FuncData} (F : Fun K "found" "Plain.found" sFound f fd) (T : GloP K mg) (WP : ClP K mg CP) (WS : ClS K mg CS) (dp : Df P w K mg base "is_path" 2 ["value"] spIsPath) : FnOk P w K mg base CX0 3 f fd ["self", "path"] (spFound P w CP CS) := by
  refine F.ok scFound (k := 2) (fun vs H Q E h => ?_) (fun cdv A outer s H vs Q E hr h => ?_)
  · obtain ⟨a, pa, rs, q, rfl, _⟩ := h
    rfl
  · obtain ⟨a, pa, rs, q, rfl, hpl, hB, epa, hq, q1⟩ := h
    have hu := hu_of hr
    have hu10 : (cxOf CX0 P w K mg base ["self", "path", "room", "name"] "Plain.found" (defScope sFound) f cdv A outer s H E).nox.A.units + 10 < cLine := by
      have := hr.units
      show (A.deeper _).units + 10 < cLine
      omega
    refine ⟨_, (pss_cons (ps_set (i := 2) scFound.nd rfl (Or.inl rfl) (pe_tup (pa_cons pe_int (pa_cons (pe_tup pa_nil) pa_nil))))
      (pss_cons (ps_if (pt_not (pt_val (pe_df (E := E0) dp hr (by rfl) (pa_cons (pv 1) pa_nil)))) (pss_one (ps_ret pe_non)) pss_nil)
      (pss_cons (ps_for PassesOwn.never rfl (pi_tup (pv 1)) (pg_name (i := 3) scFound.nd rfl (Or.inl rfl)) (pss_cons (ps_if (pt_cmp (pc_dnotin hu (pv 3) (pe_fld (pe_getN hu10 (pe_fld (pv 0) rfl) (pv 2) (fun _ _ => rfl)) rfl))) (pss_one (ps_ret pe_non)) pss_nil)
      (pss_one (ps_set (i := 2) scFound.nd rfl (Or.inl rfl) (pe_dget hu (pe_fld (pe_getN hu10 (pe_fld (pv 0) rfl) (pv 2) (fun _ _ => rfl)) rfl) (pv 3) (fun _ _ => rfl))))))
      (pss_one (ps_ret (pv 2)))))), ?_⟩
    obtain ⟨r0, hr0, er0⟩ := List.mem_map.mp hq
    have er0 : r0.1 = q := er0
    have b0 := hB.row r0 hr0
    have b9 : q.length ≤ 9 := er0 ▸ b0.l9
    have bns : ∀ n ∈ q, nameB n = true := er0 ▸ b0.ns
    refine ⟨(by show 0 ≤ sizeLine; decide), fun p0 np0 => ?_⟩
    have u0 := same_upd (o := .tup []) np0
    have ep0 : (upd H p0 (.tup [])) p0 = some (.tup []) := upd_same
    generalize (upd H p0 (.tup [])) = G1 at u0 ep0 ⊢
    refine ⟨(by show 2 ≤ sizeLine; decide), fun k0 nk0 => ?_⟩
    have u1 := same_upd (o := .tup [.int 0, .ref p0]) nk0
    have ek0 : (upd G1 k0 (.tup [.int 0, .ref p0])) k0 = some (.tup [.int 0, .ref p0]) := upd_same
    generalize (upd G1 k0 (.tup [.int 0, .ref p0])) = G2 at u1 ek0 ⊢
    have s02 : Same H G2 := fun b o z => u1 b o (u0 b o z)
    refine ⟨_, rfl, pa, q, rfl, s02 _ _ epa, Nat.le_trans b9 (by decide), bns, fun H3 s3 => ⟨_, rfl, ?_⟩⟩
    have s03 : Same H H3 := fun b o z => s3 b o (s02 b o z)
    refine ⟨_, rfl, pa, rfl, ⟨_, SqT.of (s03 _ _ epa)⟩, for_tup (xs := q.map V.str) (fun i σ H' => ∃ k t3, σ = [some (.ref a), some (.ref pa), some (.ref k), t3] ∧ Same H H' ∧ RoomT H' k (q.take i)) ⟨k0, _, rfl, s03, p0, s3 _ _ ek0, s3 _ _ (u1 _ _ ep0)⟩ ?_ ?_ ?_⟩
    · rintro i σ H' _ ⟨k, t3, rfl, sx, _⟩
      exact SqT.of (sx _ _ epa)
    · rintro i v σ H4 hv ⟨k, t3, rfl, sx, hroom⟩
      rw [List.getElem?_map] at hv
      obtain ⟨n, hn, rfl⟩ := Option.map_eq_some_iff.mp hv
      have hil : i < q.length := (List.getElem?_eq_some_iff.mp hn).1
      obtain ⟨dx, d, es, ea, ed, hk, hc⟩ := (hpl.same sx).cell hB.ne
      have hsplit : q.take (i + 1) = q.take i ++ [n] := by rw [List.take_succ, hn]; rfl
      have m1 : q.take (i + 1) ∈ rs.map (·.1) := prefix_mem hB.good _ (q.take (i + 1)) (q.drop (i + 1)) rfl (by rw [List.take_append_drop]; exact hq)
      have m0 : q.take i ∈ rs.map (·.1) := prefix_mem hB.good _ (q.take i) (q.drop i) rfl (by rw [List.take_append_drop]; exact hq)
      obtain ⟨r, hr', er⟩ := List.mem_map.mp m0
      have er : r.1 = q.take i := er
      obtain ⟨e, dd, kvs, hg, ⟨dxs, esp⟩, ekv, hdoors⟩ := hc r hr'
      rw [er] at hg hdoors
      rw [hsplit] at m1
      obtain ⟨kr, hval, hrm⟩ := hdoors.val (kids_iff.mpr m1)
      have dg : DGet H4 dd (.str n) (some (.ref kr)) := by
        have := DGet.k (k := Sum.inr n) ekv
        rw [hval] at this
        exact this
      refine ⟨_, rfl, _, rfl, a, CP, dx, _, _, rfl, ea, WP.cl, WP.n1, rfl, _, rfl, d, k, es, q.take i, e, rfl, rfl, ed, hk, hroom, hg, e.2.2, CS, dxs, _, _, rfl, esp, WS.cl, WS.n3, rfl, dd, _, rfl, dg, _, rfl, ?_⟩
      refine ⟨_, rfl, a, CP, dx, _, _, rfl, ea, WP.cl, WP.n1, rfl, _, rfl, d, k, es, q.take i, e, rfl, rfl, ed, hk, hroom, hg, e.2.2, CS, dxs, _, _, rfl, esp, WS.cl, WS.n3, rfl, _, rfl, dd, .ref kr, rfl, dg, kr, _, rfl, sx, ?_⟩
      rw [hsplit]
      exact hrm
    · rintro σ H4 ⟨k, t3, rfl, sx, hroom⟩
      rw [List.length_map, List.take_length] at hroom
      exact ⟨_, rfl, q1 k H4 sx hroom⟩
end
end Law

set_option Elab.async false
set_option linter.all false
set_option maxRecDepth 100000
set_option maxHeartbeats 1000000
namespace Law
open PySem PySem.Spec PyProof.Rows L2 Cor
/-- a method of a class, with its promise -/
def Mt (P : Program) (w : World) (K : PySem.W.Frag) (mg : Str → Option Value) (base : Heap) (C : Addr) (m : Str) (k : Nat) (ps : List Str) (sp : Sp) : Prop := ∃ f fd, Meth K C m f ∧ FnOk P w K mg base CX0 k f fd ps sp ∧ Binds K fd ps []
structure ClT (K : PySem.W.Frag) (C : Addr) : Prop where
  ca : PySem.W.findIn K (.ref C) "__class__" = some (some (.builtin "object.__class__"))
  cn : PySem.W.specialIn K (.builtin "object.__class__") "__get__" = some (some (.builtin "getset_descriptor.__get__"))
  ct : PySem.W.takesIn K (.builtin "object.__class__") = some true
  cm : PySem.W.mroIn K C (.type "object") = some true
  kw : PySem.W.kitOne K (.ref C) (.ref C) = some true
abbrev sIdent : Stmt := inClass (topS 22) 3
theorem scIdent : FnScope ["self", "path", "room"] ["self", "path"] (defScope sIdent) := ⟨rfl, rfl, rfl, by decide +kernel, rfl, by decide +kernel, by decide +kernel⟩
abbrev sNamesP : Stmt := inClass (topS 22) 4
theorem scNamesP : FnScope ["self", "path"] ["self", "path"] (defScope sNamesP) := ⟨rfl, rfl, rfl, by decide +kernel, rfl, by decide +kernel, by decide +kernel⟩
abbrev sGetP : Stmt := inClass (topS 22) 12
theorem scGetP : FnScope ["self", "path"] ["self", "path"] (defScope sGetP) := ⟨rfl, rfl, rfl, by decide +kernel, rfl, by decide +kernel, by decide +kernel⟩
abbrev sHasP : Stmt := inClass (topS 22) 14
theorem scHasP : FnScope ["self", "path"] ["self", "path"] (defScope sHasP) := ⟨rfl, rfl, rfl, by decide +kernel, rfl, by decide +kernel, by decide +kernel⟩
abbrev sLenP : Stmt := inClass (topS 22) 15
theorem scLenP : FnScope ["self"] ["self"] (defScope sLenP) := ⟨rfl, rfl, rfl, by decide +kernel, rfl, by decide +kernel, by decide +kernel⟩
abbrev sEqP : Stmt := inClass (topS 22) 16
theorem scEqP : FnScope ["self", "other"] ["self", "other"] (defScope sEqP) := ⟨rfl, rfl, rfl, by decide +kernel, rfl, by decide +kernel, by decide +kernel⟩
def spNamesP (P : Program) (w : World) (CP CS : Addr) : Sp := fun vs H Q _ => ∃ (a pa : Addr) (rs : List Rw) (q : List Str), vs = [.ref a, .ref pa] ∧ PlainAt P w CP CS H a rs ∧ Beg rs ∧ H pa = some (.tup (q.map V.str)) ∧ q ∈ rs.map (·.1) ∧
  ∀ L ys H', Same H H' → H' L = some (.lst (ys.map V.str)) → ys.Perm (kids q rs) → sortedS ys = true → Q (.ref L) H'
def spGetP (P : Program) (w : World) (CP CS : Addr) : Sp := fun vs H Q _ => ∃ (a pa : Addr) (rs : List Rw) (r : Rw), vs = [.ref a, .ref pa] ∧ PlainAt P w CP CS H a rs ∧ Beg rs ∧ H pa = some (.tup (r.1.map V.str)) ∧ r ∈ rs ∧ ∀ H', Same H H' → Q (.int r.2.1) H'
def spHasP (P : Program) (w : World) (CP CS : Addr) : Sp := fun vs H Q _ => ∃ (a pa : Addr) (rs : List Rw) (q : List Str), vs = [.ref a, .ref pa] ∧ PlainAt P w CP CS H a rs ∧ Beg rs ∧ H pa = some (.tup (q.map V.str)) ∧ q ∈ rs.map (·.1) ∧ ∀ H', Same H H' → Q (.bl true) H'
def spLenP (P : Program) (w : World) (CP CS : Addr) : Sp := fun vs H Q _ => ∃ (a : Addr) (rs : List Rw), vs = [.ref a] ∧ PlainAt P w CP CS H a rs ∧ Told rs ∧ ∀ H', Same H H' → Q (.int (rs.length : Nat)) H'
def spEqP (P : Program) (w : World) (CP CS : Addr) : Sp := fun vs H Q _ => ∃ (a b : Addr) (rs : List Rw), vs = [.ref a, .ref b] ∧ PlainAt P w CP CS H a rs ∧ PlainAt P w CP CS H b rs ∧ Beg rs ∧ ∀ H', Same H H' → Q (.bl true) H'
theorem lay_pair {q : List Str} (h : ∀ n ∈ q, A7 n) : PyData.canLay0 (pairD q) = true := by
  show (PyData.canLayAll0 (strsD q) && ((true && (PyData.canLayAll0 (strsD q) && true)) && true)) = true
  rw [lay_strs h]
  rfl
theorem lay_pairs : ∀ {qs : List (List Str)}, (∀ q ∈ qs, ∀ n ∈ q, A7 n) → PyData.canLayAll0 (qs.map pairD) = true
  | [], _ => rfl
  | q :: qs, h => by
    show (PyData.canLay0 (pairD q) && PyData.canLayAll0 (qs.map pairD)) = true
    rw [lay_pair (h q List.mem_cons_self), lay_pairs fun m hm => h m (List.mem_cons_of_mem _ hm)]
    rfl
theorem depth_pairs : ∀ qs : List (List Str), PyData.depthAll (qs.map pairD) ≤ 4
  | [] => by decide
  | q :: qs => by
    show max (pairD q).depth (PyData.depthAll (qs.map pairD)) ≤ 4
    have := depth_pair q
    have := depth_pairs qs
    omega
theorem shaped_pairs {qs : List (List Str)} (h : ∀ q ∈ qs, ∀ n ∈ q, A7 n) : SeqAt.shaped (.list (qs.map pairD)) = true := by
  unfold SeqAt.shaped
  have e : PyData.depth (.list (qs.map pairD)) ≤ 64 := by
    show PyData.depthAll (qs.map pairD) + 1 ≤ 64
    have := depth_pairs qs
    omega
  rw [decide_eq_true e, show PyData.canLay0 (.list (qs.map pairD)) = PyData.canLayAll0 (qs.map pairD) from rfl, lay_pairs h]
  rfl
theorem PairsAt.dp {K : PySem.W.Frag} {H : Hp} {vs : List V} {qs : List (List Str)} (h : PairsAt H vs qs) : DpAll K H vs (qs.map pairD) := by
  induction h with
  | nil => exact .nil
  | cons a _ ih => exact .cons a.dp ih
theorem Beg.told {rs : List Rw} (h : Beg rs) : Told rs := ⟨h.ne, Nat.le_trans h.n16 (by decide)⟩
theorem Beg.pa7 {rs : List Rw} (h : Beg rs) : ∀ q ∈ rs.map (·.1), ∀ n ∈ q, A7 n := fun q hq n hn => by
  obtain ⟨r, hr, e⟩ := List.mem_map.mp hq
  have e : r.1 = q := e
  exact name_a7 ((h.row r hr).ns n (e ▸ hn))
section
variable {P : Program} {w : World} {K : PySem.W.Frag} {mg : Str → Option Value} {base : Heap} {CS CP : Addr}
theorem ok_ident {f : Addr} {fd : FuncData} (F : Fun K "identity" "Plain.identity" sIdent f fd) (T : GloP K mg) (WP : ClP K mg CP) (df : Mt P w K mg base CP "found" 3 ["self", "path"] (spFound P w CP CS)) : FnOk P w K mg base CX0 4 f fd ["self", "path"] (spFound P w CP CS) := by
  refine F.ok scIdent (k := 3) (fun vs H Q E h => ?_) (fun cdv A outer s H vs Q E hr h => ?_)
  · obtain ⟨a, pa, rs, q, rfl, _⟩ := h
    rfl
  · obtain ⟨a, pa, rs, q, rfl, hpl, hB, epa, hq, q1⟩ := h
    obtain ⟨ff, fdf, hmf, Ff, bf⟩ := df
    refine ⟨_, (pss_cons (ps_set (i := 2) scIdent.nd rfl (Or.inl rfl) (pe_meth (E := E0) (pv 0) WP.cl hmf Ff hr bf .nil pass0 (pa_cons (pv 1) pa_nil)))
      (pss_cons (ps_if (pt_cmp (pc_isN (pv 2)) rfl) (pss_one ps_never) pss_nil)
      (pss_one (ps_ret (pv 2))))), ?_⟩
    have hpl' := hpl
    obtain ⟨dx, d, cs, ea, _⟩ := hpl'
    refine ⟨_, rfl, a, dx, _, rfl, ea, rfl, _, rfl, a, pa, rs, q, rfl, hpl, hB, epa, hq, fun k H1 s1 hrm => ⟨_, rfl, ?_⟩⟩
    refine ⟨_, rfl, ?_⟩
    rw [show decide (V.ref k = V.non) = false from rfl]
    exact ⟨_, rfl, q1 k H1 s1 hrm⟩
theorem ok_hasP {f : Addr} {fd : FuncData} (F : Fun K "__contains__" "Plain.__contains__" sHasP f fd) (T : GloP K mg) (WP : ClP K mg CP) (df : Mt P w K mg base CP "found" 3 ["self", "path"] (spFound P w CP CS)) : FnOk P w K mg base CX0 4 f fd ["self", "path"] (spHasP P w CP CS) := by
  refine F.ok scHasP (k := 3) (fun vs H Q E h => ?_) (fun cdv A outer s H vs Q E hr h => ?_)
  · obtain ⟨a, pa, rs, q, rfl, _⟩ := h
    rfl
  · obtain ⟨a, pa, rs, q, rfl, hpl, hB, epa, hq, q1⟩ := h
    obtain ⟨ff, fdf, hmf, Ff, bf⟩ := df
    refine ⟨_, (pss_one (ps_ret (pe_cmp (pc_notN (pe_meth (E := E0) (pv 0) WP.cl hmf Ff hr bf .nil pass0 (pa_cons (pv 1) pa_nil))) rfl))), ?_⟩
    have hpl' := hpl
    obtain ⟨dx, d, cs, ea, _⟩ := hpl'
    exact ⟨_, rfl, a, dx, _, rfl, ea, rfl, _, rfl, a, pa, rs, q, rfl, hpl, hB, epa, hq, fun k H1 s1 hrm => q1 H1 s1⟩
theorem ok_getP {f : Addr} {fd : FuncData} (F : Fun K "__getitem__" "Plain.__getitem__" sGetP f fd) (T : GloP K mg) (WP : ClP K mg CP) (WS : ClS K mg CS) (df : Mt P w K mg base CP "identity" 4 ["self", "path"] (spFound P w CP CS)) : FnOk P w K mg base CX0 5 f fd ["self", "path"] (spGetP P w CP CS) := by
  refine F.ok scGetP (k := 4) (fun vs H Q E h => ?_) (fun cdv A outer s H vs Q E hr h => ?_)
  · obtain ⟨a, pa, rs, r, rfl, _⟩ := h
    rfl
  · obtain ⟨a, pa, rs, r, rfl, hpl, hB, epa, hq, q1⟩ := h
    obtain ⟨ff, fdf, hmf, Ff, bf⟩ := df
    have hu10 : (cxOf CX0 P w K mg base ["self", "path"] "Plain.__getitem__" (defScope sGetP) f cdv A outer s H E).nox.A.units + 10 < cLine := by
      have := hr.units
      show (A.deeper _).units + 10 < cLine
      omega
    refine ⟨_, (pss_one (ps_ret (pe_fld (pe_getN hu10 (pe_fld (pv 0) rfl) (pe_meth (E := E0) (pv 0) WP.cl hmf Ff hr bf .nil pass0 (pa_cons (pv 1) pa_nil)) (fun _ _ => rfl)) rfl))), ?_⟩
    obtain ⟨dx, d, es, ea, ed, hk, hc⟩ := hpl.cell hB.ne
    refine ⟨_, rfl, a, CP, dx, _, _, rfl, ea, WP.cl, WP.n1, rfl, _, rfl, a, dx, _, rfl, ea, rfl, _, rfl, a, pa, rs, r.1, rfl, hpl, hB, epa, List.mem_map.mpr ⟨r, hq, rfl⟩, fun k H1 s1 hrm => ?_⟩
    obtain ⟨dx1, d1, es1, ea1, ed1, hk1, hc1⟩ := (hpl.same s1).cell hB.ne
    have eqq := (s1 _ _ ea).symm.trans ea1
    cases eqq
    obtain ⟨e, dd, kvs, hg, ⟨dxs, esp⟩, ekv, hdoors⟩ := hc1 r hq
    exact ⟨d, k, es1, r.1, e, rfl, rfl, ed1, hk1, hrm, hg, e.2.2, CS, dxs, _, _, rfl, esp, WS.cl, WS.n1, rfl, q1 H1 s1⟩
theorem ok_namesP {f : Addr} {fd : FuncData} (F : Fun K "names" "Plain.names" sNamesP f fd) (T : GloP K mg) (WP : ClP K mg CP) (WS : ClS K mg CS) (df : Mt P w K mg base CP "identity" 4 ["self", "path"] (spFound P w CP CS)) : FnOk P w K mg base CX0 5 f fd ["self", "path"] (spNamesP P w CP CS) := by
  refine F.ok scNamesP (k := 4) (fun vs H Q E h => ?_) (fun cdv A outer s H vs Q E hr h => ?_)
  · obtain ⟨a, pa, rs, r, rfl, _⟩ := h
    rfl
  · obtain ⟨a, pa, rs, q, rfl, hpl, hB, epa, hq, q1⟩ := h
    obtain ⟨ff, fdf, hmf, Ff, bf⟩ := df
    have hu10 : (cxOf CX0 P w K mg base ["self", "path"] "Plain.names" (defScope sNamesP) f cdv A outer s H E).nox.A.units + 10 < cLine := by
      have := hr.units
      show (A.deeper _).units + 10 < cLine
      omega
    refine ⟨_, (pss_one (ps_ret (pe_callB (call_sortedD rfl) (by rfl) T.sorted (by decide +kernel) (pa_cons (pe_fld (pe_getN hu10 (pe_fld (pv 0) rfl) (pe_meth (E := E0) (pv 0) WP.cl hmf Ff hr bf .nil pass0 (pa_cons (pv 1) pa_nil)) (fun _ _ => rfl)) rfl) pa_nil)))), ?_⟩
    obtain ⟨dx, d, es, ea, ed, hk, hc⟩ := hpl.cell hB.ne
    refine ⟨_, rfl, a, CP, dx, _, _, rfl, ea, WP.cl, WP.n1, rfl, _, rfl, a, dx, _, rfl, ea, rfl, _, rfl, a, pa, rs, q, rfl, hpl, hB, epa, hq, fun k H1 s1 hrm => ?_⟩
    obtain ⟨dx1, d1, es1, ea1, ed1, hk1, hc1⟩ := (hpl.same s1).cell hB.ne
    have eqq := (s1 _ _ ea).symm.trans ea1
    cases eqq
    obtain ⟨r, hr', er⟩ := List.mem_map.mp hq
    have er : r.1 = q := er
    obtain ⟨e, dd, kvs, hg, ⟨dxs, esp⟩, ekv, hdoors⟩ := hc1 r hr'
    rw [er] at hg hdoors
    have klen : (kids q rs).length < 64 := by
      have h2 : (kids q rs).length ≤ rs.length := List.length_filterMap_le _ _
      have := hB.n16
      omega
    refine ⟨d, k, es1, q, e, rfl, rfl, ed1, hk1, hrm, hg, e.2.2, CS, dxs, _, _, rfl, esp, WS.cl, WS.n3, rfl, dd, kvs, kids q rs, rfl, .inl ekv, hdoors.keys, klen, fun ys S perm srt nS => ?_⟩
    have s2 := same_upd (o := .lst (ys.map V.str)) nS
    exact q1 S ys _ (fun b o z => s2 b o (s1 b o z)) upd_same perm srt
theorem ok_lenP {f : Addr} {fd : FuncData} (F : Fun K "__len__" "Plain.__len__" sLenP f fd) (T : GloP K mg) (WP : ClP K mg CP) (dp : Mt P w K mg base CP "places" 63 ["self"] (spPlaces P w CP CS)) : FnOk P w K mg base CX0 64 f fd ["self"] (spLenP P w CP CS) := by
  refine F.ok scLenP (k := 63) (fun vs H Q E h => ?_) (fun cdv A outer s H vs Q E hr h => ?_)
  · obtain ⟨a, rs, rfl, _⟩ := h
    rfl
  · obtain ⟨a, rs, rfl, hpl, ht, q1⟩ := h
    obtain ⟨fp, fdp, hmp, Fp, bp⟩ := dp
    refine ⟨_, (pss_one (ps_ret (pe_callB call_len_seq (by rfl) T.len PySem.boot_len (pa_cons (pe_meth0 (E := E0) (pv 0) WP.cl hmp Fp hr bp .nil pass0) pa_nil)))), ?_⟩
    have hpl' := hpl
    obtain ⟨dx, d, cs, ea, _⟩ := hpl'
    refine ⟨_, rfl, a, dx, _, rfl, ea, rfl, a, rs, rfl, hpl, ht, fun L us H1 s1 eL hP => ?_⟩
    refine ⟨L, us, rfl, .inl (SqL.of eL), ?_⟩
    have ul := hP.len
    rw [List.length_map] at ul
    rw [ul]
    exact q1 H1 s1
theorem ok_eqP {f : Addr} {fd : FuncData} (F : Fun K "__eq__" "Plain.__eq__" sEqP f fd) (T : GloP K mg) (WP : ClP K mg CP) (CT : ClT K CP) (dp : Mt P w K mg base CP "places" 63 ["self"] (spPlaces P w CP CS)) {gs : Addr} (bs : PySem.W.findIn K (.ref CP) "__str__" = some (some (.ref gs))) (MS : MdR P w K mg base 64 gs (spStrP P w CP CS)) : FnOk P w K mg base CX0 67 f fd ["self", "other"] (spEqP P w CP CS) := by
  refine F.ok scEqP (k := 66) (fun vs H Q E h => ?_) (fun cdv A outer s H vs Q E hr h => ?_)
  · obtain ⟨a, b, rs, rfl, _⟩ := h
    rfl
  · obtain ⟨a, b, rs, rfl, ha, hb, hB, q1⟩ := h
    obtain ⟨fp, fdp, hmp, Fp, bp⟩ := dp
    refine ⟨_, (pss_one (ps_ret (pe_and (pe_callB (id := "isinstance") (show CallR _ (.builtin "isinstance") (rIsi K) from call_isi) (by rfl) T.isinstance (by decide +kernel) (pa_cons (pv 1) (pa_cons (pe_glob (v := .ref CP) (by rfl) WP.nm rfl) pa_nil))) (pe_and (pe_cmpR (op_eqD hr.units) (pe_meth0 (E := E0) (pv 0) WP.cl hmp Fp (hr.mono (by omega)) bp .nil pass0) (pe_meth0 (E := E0) (pv 1) WP.cl hmp Fp (hr.mono (by omega)) bp .nil pass0) (nomark _)) (pe_one (pe_cmpR op_eq (pe_callTy (call_strO bs MS hr) (by rfl) T.str (by decide +kernel) (pa_cons (pv 0) pa_nil)) (pe_callTy (call_strO bs MS hr) (by rfl) T.str (by decide +kernel) (pa_cons (pv 1) pa_nil)) (nomark _))))))), ?_⟩
    have ha' := ha
    have hb' := hb
    obtain ⟨dx, d, cs, ea, _⟩ := ha'
    obtain ⟨dxb, db, csb, eb, _⟩ := hb'
    refine ⟨_, rfl, _, _, _, _, _, rfl, .own CP, .base (.ins eb WP.cl CT.ca CT.cn CT.ct CT.cm), CT.kw, true, rfl, ?_⟩
    refine ⟨_, rfl, a, dx, _, rfl, ea, rfl, a, rs, rfl, ha, hB.told, fun L us H1 s1 eL hP => ?_⟩
    refine ⟨_, rfl, b, dxb, _, rfl, s1 _ _ eb, rfl, b, rs, rfl, hb.same s1, hB.told, fun L2 us2 H2 s2 eL2 hP2 => ?_⟩
    have sh := shaped_pairs hB.pa7
    refine ⟨_, _, .lst (SqL.of (s2 _ _ eL)) (hP.kt (kt_same s2)).dp, .lst (SqL.of eL2) hP2.dp, sh, sh, true, ?_, ?_⟩
    · rw [PySem.SeqAt.eqv_refl _ (show PyData.canLay0 (.list ((rs.map (·.1)).map pairD)) = true from lay_pairs hB.pa7)]
    · have s02 : Same H H2 := fun b o z => s2 b o (s1 b o z)
      refine ⟨_, rfl, a, dx, _, rfl, s02 _ _ ea, a, rs, rfl, ha.same s02, hB.shown, fun H3 s3 => ⟨_, rfl, ?_⟩⟩
      have s03 : Same H H3 := fun b o z => s3 b o (s02 b o z)
      refine ⟨_, rfl, b, dxb, _, rfl, s03 _ _ eb, b, rs, rfl, hb.same s03, hB.shown, fun H4 s4 => ⟨_, rfl, rfl, ?_⟩⟩
      rw [decide_eq_true rfl]
      exact q1 H4 fun b o z => s4 b o (s03 b o z)
end
end Law

set_option Elab.async false
set_option linter.all false
set_option maxRecDepth 100000
set_option maxHeartbeats 1000000
namespace Law
open PySem PySem.Spec PyProof.Rows L2 Cor GenW
theorem sorted_pair : ∀ (l : List Str), sortedS l = true → l.Pairwise fun a b => leS a b = true
  | [], _ => .nil
  | [a], _ => List.pairwise_singleton _ _
  | a :: b :: r, h => by
    have h : ((!ltCps b.cps.toList a.cps.toList) && sortedS (b :: r)) = true := h
    rw [Bool.and_eq_true] at h
    have ih := sorted_pair (b :: r) h.2
    have hab : leS a b = true := by
      unfold leS
      rw [PyProof.Rows.le_meets]
      exact h.1
    refine List.pairwise_cons.mpr ⟨fun c hc => ?_, ih⟩
    rcases List.mem_cons.mp hc with rfl | hc
    · exact hab
    · exact leS_trans hab ((List.pairwise_cons.mp ih).1 c hc)
theorem sorted_one {l m ks : List Str} (hl : sortedS l = true) (hm : sortedS m = true) (pl : l.Perm ks) (pm : m.Perm ks) : l = m :=
  List.Perm.eq_of_pairwise (le := fun a b => leS a b = true) (fun a b _ _ => leS_anti) (sorted_pair l hl) (sorted_pair m hm) (pl.trans pm.symm)
/-! ### Plain.paths -/
abbrev sPaths : Stmt := inClass (topS 22) 10
theorem scPaths : GScope ["self", "path", "room"] ["self"] (defScope sPaths) := ⟨rfl, rfl, rfl, by decide +kernel, rfl, by decide +kernel, by decide +kernel⟩
def spPathsG (P : Program) (w : World) (CP CS : Addr) : SpZ := fun vs H Q => ∃ (a : Addr) (rs : List Rw), vs = [.ref a] ∧ PlainAt P w CP CS H a rs ∧ Told rs ∧ ∀ ys H', Same H H' → PathsAt H' ys (rs.map (·.1)) → Q ys H'
section
variable {P : Program} {w : World} {K : PySem.W.Frag} {mg : Str → Option Value} {base : Heap} {CS CP : Addr}
theorem ok_paths {f : Addr} {fd : FuncData} (F : Fun K "paths" "Plain.paths" sPaths f fd) (WP : ClP K mg CP) (dp : Mt P w K mg base CP "places" 63 ["self"] (spPlaces P w CP CS)) : GFnZ P w K mg base 64 f fd ["self"] (spPathsG P w CP CS) := by
  obtain ⟨fp, fdp, hmp, Fp, bp⟩ := dp
  obtain ⟨oc, od, kV, doc, pm, an, cdv, ct, osl, rfl, lk, hcd⟩ := F.ex
  refine gfnZ_of lk hcd scPaths (fun vs H Q h => ?_) (fun _ _ => rfl) (fun _ => rfl) (fun A outer s H vs Q pn hr h => ?_)
  · obtain ⟨a, rs, rfl, _⟩ := h
    rfl
  · obtain ⟨a, rs, rfl, hpl, ht, q⟩ := h
    refine ⟨_, _, _, pi_list (pe_meth0 (E := E0) (pv 0) WP.cl hmp Fp hr bp .nil pass0), pg_tup (n := 2) rfl (pgs_cons (pg_name (i := 1) scPaths.nd rfl (Or.inl rfl)) (pgs_cons (pg_name (i := 2) scPaths.nd rfl (Or.inl rfl)) pgs_nil)), pv 1, ?_⟩
    have hpl' := hpl
    obtain ⟨dx, d, cs, ea, _⟩ := hpl'
    refine ⟨_, rfl, a, dx, _, rfl, ea, rfl, a, rs, rfl, hpl, ht, fun L us H1 s1 eL hP => ⟨L, rfl, ⟨_, SqL.of eL⟩, ?_⟩⟩
    have ul := hP.len
    rw [List.length_map] at ul
    have n60 := ht.n60
    refine ⟨fun i ys σ H' => i ≤ us.length ∧ ys.length = i ∧ (∃ t1 t2, σ = [some (.ref a), t1, t2]) ∧ H' = H1 ∧ PathsAt H1 ys ((rs.map (·.1)).take i), ⟨Nat.zero_le _, rfl, ⟨_, _, rfl⟩, rfl, .nil⟩, ?_⟩
    rintro i ys σ H2 ⟨hi, yl, ⟨t1, t2, rfl⟩, rfl, hy⟩
    by_cases hlt : i < us.length
    · refine .inr ⟨⟨us, us[i], SqL.of eL, List.getElem?_eq_getElem hlt⟩, Nat.lt_of_le_of_lt (show ys.length ≤ 60 by omega) (by decide), fun x H' y => ?_⟩
      obtain ⟨rfl, y⟩ := y
      have hx := y us (SqL.of eL)
      obtain ⟨q0, hq0, t, pa, k, rfl, et, epa, _⟩ := hP.get hx
      refine ⟨t, _, rfl, SqT.of et, rfl, _, _, rfl, _, _, rfl, rfl, _, rfl, hlt, by rw [List.length_append, yl]; rfl, ⟨_, _, rfl⟩, rfl, ?_⟩
      rw [List.take_succ, hq0]
      exact hy.snoc ⟨pa, rfl, epa⟩
    · refine .inl ⟨⟨us, SqL.of eL, by omega⟩, ?_⟩
      rw [List.take_of_length_le (by rw [List.length_map]; omega)] at hy
      exact q ys H2 s1 hy
end
end Law

set_option Elab.async false
set_option linter.all false
set_option maxRecDepth 100000
set_option maxHeartbeats 1000000
namespace Law
open PySem PySem.Spec PyProof.Rows L2 Cor GenW
/-- what the class Plain has -/
structure PlB (P : Program) (w : World) (K : PySem.W.Frag) (mg : Str → Option Value) (base : Heap) (CP CS : Addr) : Prop where
  wp : ClP K mg CP
  ws : ClS K mg CS
  str : ∃ g, PySem.W.findIn K (.ref CP) "__str__" = some (some (.ref g)) ∧ MdR P w K mg base 64 g (spStrP P w CP CS)
  len : ∃ g, PySem.W.findIn K (.ref CP) "__len__" = some (some (.ref g)) ∧ MdR P w K mg base 64 g (spLenP P w CP CS)
  get : ∃ g, PySem.W.findIn K (.ref CP) "__getitem__" = some (some (.ref g)) ∧ PySem.W.fnIn K g = true ∧ MdR P w K mg base 5 g (spGetP P w CP CS)
  has : ∃ g, PySem.W.findIn K (.ref CP) "__contains__" = some (some (.ref g)) ∧ MdR P w K mg base 4 g (spHasP P w CP CS)
  ident : Mt P w K mg base CP "identity" 4 ["self", "path"] (spFound P w CP CS)
  names : Mt P w K mg base CP "names" 5 ["self", "path"] (spNamesP P w CP CS)
  paths : ∃ f fd, Meth K CP "paths" f ∧ GFnZ P w K mg base 64 f fd ["self"] (spPathsG P w CP CS) ∧ Binds K fd ["self"] []
abbrev sPlIs : Stmt := topS 34
theorem scPlIs : FnScope ["_law_store", "_law_state_here", "_law_many", "_law_found", "_law_path_here", "_law_room", "_law_worth", "_law_below", "_law_house"] ["_law_store", "_law_state_here", "_law_many"] (defScope sPlIs) := ⟨rfl, rfl, rfl, by decide +kernel, rfl, by decide +kernel, by decide +kernel⟩
def spPlIs (P : Program) (w : World) (CP CS : Addr) : Sp := fun vs H Q _ => ∃ (a d : Addr) (rs : List Rw), vs = [.ref a, .ref d, .int 0] ∧ PlainAt P w CP CS H a rs ∧ StateAt P w H d rs ∧ Beg rs ∧ ∀ H', Same H H' → Q (.bl true) H'
def roomD (q : List Str) : PyData := .tuple [.int 0, pathD q]
theorem dp_room {K : PySem.W.Frag} {H : Hp} {k : Addr} {q : List Str} (h : RoomT H k q) : Dp K H (.ref k) (roomD q) := by
  obtain ⟨pa, h1, h2⟩ := h
  exact .tup (SqT.of h1) (.cons (.int 0) (.cons (.tup (SqT.of h2) (dp_strs q)) .nil))
theorem lay_room {q : List Str} (h : ∀ n ∈ q, A7 n) : PyData.canLay0 (roomD q) = true := by
  show (true && (PyData.canLayAll0 (strsD q) && true)) = true
  rw [lay_strs h]
  rfl
theorem shaped_room {q : List Str} (h : ∀ n ∈ q, A7 n) : SeqAt.shaped (roomD q) = true := by
  unfold SeqAt.shaped
  have e : PyData.depth (roomD q) ≤ 64 := by
    show max 0 (max (PyData.depthAll (strsD q) + 1) 0) + 1 ≤ 64
    rw [depth_strs]
    decide
  rw [decide_eq_true e, lay_room h]
  rfl
def lenD (n : Nat) : PyData := .list [.int (n : Nat), .int 0]
theorem len_data {n : Nat} (h : n ≤ 16) : (lenD n).showable = true ∧ (lenD n).hasDict = false ∧ (lenD n).shown.length ≤ sizeLine ∧ (lenD n).depth ≤ 60 := by
  have : ∀ k : Fin 17, (lenD k).showable = true ∧ (lenD k).hasDict = false ∧ (lenD k).shown.length ≤ sizeLine ∧ (lenD k).depth ≤ 60 := by decide +kernel
  exact this ⟨n, by omega⟩
section
variable {P : Program} {w : World} {K : PySem.W.Frag} {mg : Str → Option Value} {base : Heap} {CS CP : Addr}
theorem ok_plIs {f : Addr} {fd : FuncData} (F : Fun K "_law_plain_is" "_law_plain_is" sPlIs f fd) (T : GloP K mg) (B : PlB P w K mg base CP CS) (dp : Df P w K mg base "_law_paths" 1 ["_law_state_here"] (spPathsL P w)) (dr : Df P w K mg base "_law_rows_of" 2 ["_law_state_here"] (spRowsOf P w)) (dt : Df P w K mg base "_law_start_text" 2 ["_law_rows"] spLTextN) :
    FnG P w K mg base CX0 67 f fd ["_law_store", "_law_state_here", "_law_many"] (spPlIs P w CP CS) := by
  refine okG F scPlIs (k := 66) (fun vs H Q E h => ?_) (fun cdv A outer s H vs Q E hr gd h => ?_)
  · obtain ⟨a, d, rs, rfl, _⟩ := h
    rfl
  · obtain ⟨a, d, rs, rfl, hpl, hst, hB, q1⟩ := h
    obtain ⟨WP, WS, ⟨gs, bs, MS⟩, ⟨gl, bl, ML⟩, ⟨gg, bg, fg, MG⟩, ⟨gh, bh, MH⟩, ⟨fi, fdi, hmi, Fi, bi⟩, ⟨fn, fdn, hmn, Fn, bn⟩, ⟨fp, fdp, hmp, Fp, bp⟩⟩ := B
    have r1 : Room 1 (A.deeper _) := hr.mono (by omega)
    have r2 : Room 2 (A.deeper _) := hr.mono (by omega)
    have r4 : Room 4 (A.deeper _) := hr.mono (by omega)
    have r5 : Room 5 (A.deeper _) := hr.mono (by omega)
    have r6 : Room 6 (A.deeper _) := hr.mono (by omega)
    have r64 : Room 64 (A.deeper _) := hr.mono (by omega)
    have r65 : Room 65 (A.deeper _) := hr.mono (by omega)
    have hu10 : (cxOf CX0 P w K mg base ["_law_store", "_law_state_here", "_law_many", "_law_found", "_law_path_here", "_law_room", "_law_worth", "_law_below", "_law_house"] "_law_plain_is" (defScope sPlIs) f cdv A outer s H E).nox.A.units + 10 < cLine := by
      have := hr.units
      show (A.deeper _).units + 10 < cLine
      omega
    refine ⟨_, (pss_cons (ps_set (i := 3) scPlIs.nd rfl (Or.inl rfl) (pe_df (E := E0) dp r1 (by rfl) (pa_cons (pv 1) pa_nil)))
      (pss_cons (ps_if (pt_cmpR op_ne (pe_callTy (call_strO bs MS hr) (by rfl) T.str (by decide +kernel) (pa_cons (pv 0) pa_nil)) (pe_df (E := E0) dt r2 (by rfl) (pa_cons (pe_df (E := E0) dr r2 (by rfl) (pa_cons (pv 1) pa_nil)) pa_nil)) (nomark _)) (pss_one (ps_ret pe_bl)) pss_nil)
      (pss_cons (ps_if (pt_cmpR op_ne (pe_callB (call_reprL gd hr.units) (by rfl) T.repr (by decide +kernel) (pa_cons (pe_lst (pa_cons (pe_callB (call_lenO bl ML r65) (by rfl) T.len PySem.boot_len (pa_cons (pv 0) pa_nil)) (pa_cons (pe_fld (pv 0) rfl) pa_nil))) pa_nil)) (pe_callB (call_reprL gd hr.units) (by rfl) T.repr (by decide +kernel) (pa_cons (pe_lst (pa_cons (pe_callB call_len_seq (by rfl) T.len PySem.boot_len (pa_cons (pv 3) pa_nil)) (pa_cons (pv 2) pa_nil))) pa_nil)) (nomark _)) (pss_one (ps_ret pe_bl)) pss_nil)
      (pss_cons (ps_if (pt_cmpR (op_neD hr.units) (pe_lcZ (k := 64) rfl (pgenZ_meth0 (pv 0) WP.cl hmp Fp r64 bp) r65 (blkOk_by (own := [("_law_path_here", 4)]) (N := ["_law_store", "_law_state_here", "_law_many", "_law_found", "_law_path_here", "_law_room", "_law_worth", "_law_below", "_law_house"]) (sc := defScope sPlIs) (by decide +kernel)) rfl) (pe_lc (own := [("_law_path_here", 4), ("_law_room", 5)]) (g := gTup K 2 (gCons (gName 4) (gCons (gName 5) gNil))) (te := tVar 4) (by rfl) scPlIs.nd (pi_list (pv 3)) (blkOk_by (own := [("_law_path_here", 4), ("_law_room", 5)]) (N := ["_law_store", "_law_state_here", "_law_many", "_law_found", "_law_path_here", "_law_room", "_law_worth", "_law_below", "_law_house"]) (sc := defScope sPlIs) (by decide +kernel)) (fun _ _ _ _ _ => (pg_tup (n := 2) rfl (pgs_cons (pg_name (i := 4) scPlIs.nd rfl (Or.inl rfl)) (pgs_cons (pg_name (i := 5) scPlIs.nd rfl (Or.inl rfl)) pgs_nil)))) (fun _ _ _ _ _ => pts_nil) (fun _ _ _ _ _ => (pv 4))) (nomark _)) (pss_one (ps_ret pe_bl)) pss_nil)
      (pss_cons (ps_for PassesOwn.never rfl (pi_list (pv 3)) (pg_tup rfl (pgs_cons (pg_name (i := 4) scPlIs.nd rfl (Or.inl rfl)) (pgs_cons (pg_name (i := 5) scPlIs.nd rfl (Or.inl rfl)) pgs_nil))) (pss_cons (ps_asg (pe_getN hu10 (pv 1) (pv 5) (fun _ _ => rfl)) (pg_lst rfl (pgs_cons (pg_name (i := 6) scPlIs.nd rfl (Or.inl rfl)) (pgs_cons (pg_name (i := 7) scPlIs.nd rfl (Or.inl rfl)) (pgs_cons (pg_name (i := 8) scPlIs.nd rfl (Or.inl rfl)) pgs_nil)))))
      (pss_cons (ps_if (PW.pt (pw_or (pt_cmpR op_ne (pe_callB (call_reprD gd hr.units) (by rfl) T.repr (by decide +kernel) (pa_cons (pe_ixO bg fg MG r6 (pv 0) (pv 4)) pa_nil)) (pe_callB (call_reprD gd hr.units) (by rfl) T.repr (by decide +kernel) (pa_cons (pv 6) pa_nil)) (nomark _)) (pw_or (pt_cmpR (op_notInO bh MH r4) (pv 4) (pv 0) (by rfl)) (pw_or1 (pt_cmpR (op_neD hr.units) (pe_meth (E := E0) (pv 0) WP.cl hmi Fi r4 bi .nil pass0 (pa_cons (pv 4) pa_nil)) (pv 5) (nomark _)))))) (pss_one (ps_ret pe_bl)) pss_nil)
      (pss_one (ps_if (pt_cmpR (op_neD hr.units) (pe_callTy call_list_of (by rfl) T.list (by decide +kernel) (pa_cons (pe_meth (E := E0) (pv 0) WP.cl hmn Fn r5 bn .nil pass0 (pa_cons (pv 4) pa_nil)) pa_nil)) (pe_callB (call_sortedD rfl) (by rfl) T.sorted (by decide +kernel) (pa_cons (pv 7) pa_nil)) (nomark _)) (pss_one (ps_ret pe_bl)) pss_nil)))))
      (pss_one (ps_ret pe_bl))))))), ?_⟩
    have hpl' := hpl
    obtain ⟨dx, dd, cs, ea, _⟩ := hpl'
    have n16 := hB.n16
    refine ⟨_, rfl, d, rs, rfl, hst, hB, fun L us H1 s1 eL hP => ?_⟩
    have ul := hP.len
    rw [List.length_map] at ul
    refine ⟨_, rfl, a, dx, _, rfl, s1 _ _ ea, a, rs, rfl, hpl.same s1, hB.shown, fun H2 s2 => ⟨_, rfl, ?_⟩⟩
    have s02 : Same H H2 := fun b o z => s2 b o (s1 b o z)
    refine ⟨_, rfl, d, rs, rfl, hst.same s02, hB, fun L3 us3 H3 s3 eL3 hR3 => ?_⟩
    refine ⟨L3, us3, rs, rfl, eL3, hR3, hB, fun H4 s4 => ?_⟩
    refine ⟨rfl, _, rfl, ?_⟩
    rw [show (!decide (V.str (storeText rs) = V.str (storeText rs))) = false from by rw [decide_eq_true rfl]; rfl]
    have s24 : Same H2 H4 := fun b o z => s4 b o (s3 b o z)
    have s04 : Same H H4 := fun b o z => s24 b o (s02 b o z)
    have eL4 := s24 _ _ (s2 _ _ eL)
    refine ⟨_, rfl, a, dx, _, rfl, s04 _ _ ea, a, rs, rfl, hpl.same s04, hB.told, fun H5 s5 => ⟨_, rfl, by omega, by omega, ?_⟩⟩
    have s05 : Same H H5 := fun b o z => s5 b o (s04 b o z)
    refine ⟨_, rfl, a, CP, dx, _, _, rfl, s05 _ _ ea, WP.cl, WP.n2, rfl, ?_⟩
    obtain ⟨g1, g2, g3, g4⟩ := len_data n16
    refine ⟨(by show 2 ≤ sizeLine; decide), fun p6 np6 => ?_⟩
    have s56 := same_upd (o := .lst [.int (rs.length : Nat), .int 0]) np6
    have e6 : (upd H5 p6 (.lst [.int (rs.length : Nat), .int 0])) p6 = some (.lst [.int (rs.length : Nat), .int 0]) := upd_same
    generalize (upd H5 p6 (.lst [.int (rs.length : Nat), .int 0])) = H6 at s56 e6 ⊢
    refine ⟨p6, lenD rs.length, rfl, .lst (SqL.of e6) (.cons (.int _) (.cons (.int 0) .nil)), g1, g2, g3, g4, ?_⟩
    have eL6 := s56 _ _ (s5 _ _ eL4)
    refine ⟨_, rfl, L, us, rfl, .inl (SqL.of eL6), ?_⟩
    rw [ul]
    refine ⟨_, rfl, (by show 2 ≤ sizeLine; decide), fun p7 np7 => ?_⟩
    have s67 := same_upd (o := .lst [.int (rs.length : Nat), .int 0]) np7
    have e7 : (upd H6 p7 (.lst [.int (rs.length : Nat), .int 0])) p7 = some (.lst [.int (rs.length : Nat), .int 0]) := upd_same
    generalize (upd H6 p7 (.lst [.int (rs.length : Nat), .int 0])) = H7 at s67 e7 ⊢
    refine ⟨p7, lenD rs.length, rfl, .lst (SqL.of e7) (.cons (.int _) (.cons (.int 0) .nil)), g1, g2, g3, g4, rfl, _, rfl, ?_⟩
    rw [show (!decide (V.str (lenD rs.length).shown = V.str (lenD rs.length).shown)) = false from by rw [decide_eq_true rfl]; rfl]
    have s07 : Same H H7 := fun b o z => s67 b o (s56 b o (s05 b o z))
    have eL7 := s67 _ _ eL6
    have hP7 : PairsAt H7 us (rs.map (·.1)) := hP.kt (kt_same fun b o z => s67 b o (s56 b o (s5 b o (s24 b o (s2 b o z)))))
    refine ⟨_, rfl, a, dx, _, rfl, s07 _ _ ea, rfl, a, rs, rfl, hpl.same s07, hB.told, fun ys H8 s8 hY p8 np8 => ?_⟩
    have s89 := same_upd (o := .lst ys) np8
    have e9 : (upd H8 p8 (.lst ys)) p8 = some (.lst ys) := upd_same
    have hY9 := hY.kp (Same.kp s89)
    generalize (upd H8 p8 (.lst ys)) = H9 at s89 e9 hY9 ⊢
    have s79 : Same H7 H9 := fun b o z => s89 b o (s8 b o z)
    have eL9 := s79 _ _ eL7
    have hP9 := hP7.kt (kt_same s79)
    refine ⟨_, rfl, L, rfl, ⟨_, SqL.of eL9⟩, fun D nD => lc_list (xs := us) (te := tVar 4) (fun i H' => Same H9 H' ∧ ∃ acc, H' D = some (.lst acc) ∧ PathsAt H' acc ((rs.map (·.1)).take i)) ?_ ?_ ?_ ?_⟩
    · exact ⟨same_upd nD, [], upd_same, .nil⟩
    · rintro i H' _ ⟨sx, _⟩
      exact SqL.of (sx _ _ eL9)
    · rintro i v Ha hv ⟨sx, acc, eD, hA⟩
      obtain ⟨qq, hq, t, pa, k, rfl, et, epa, hroom⟩ := hP9.get hv
      have alen := hA.len
      rw [List.length_take] at alen
      refine ⟨t, _, rfl, SqT.of (sx _ _ et), rfl, _, _, rfl, _, _, rfl, rfl, rfl, _, rfl, acc, eD, ?_, fun b o z => ?_, acc ++ [.ref pa], upd_same, ?_⟩
      · rw [alen, List.length_map]
        exact Nat.lt_of_le_of_lt (show min i rs.length ≤ 16 by omega) (by decide)
      · rw [upd_ne (ne_of_none z nD)]
        exact sx b o z
      · have kx : Kp Ha (upd Ha D (.lst (acc ++ [.ref pa]))) := fun b o n z => by
          rw [upd_ne (fun e => by rw [e, eD] at z; exact n _ (Option.some.inj z).symm)]
          exact z
        rw [List.take_succ, hq]
        exact (hA.kp kx).snoc ⟨pa, rfl, kx _ _ (fun _ z => by cases z) (sx _ _ epa)⟩
    · rintro Hb ⟨sb, acc, eD, hA⟩
      rw [ul, List.take_of_length_le (by rw [List.length_map]; exact Nat.le_refl _)] at hA
      have shp := shaped_paths hB.pa7
      refine ⟨_, _, .lst (SqL.of (sb _ _ e9)) (hY9.kp (Same.kp sb)).dp, .lst (SqL.of eD) hA.dp, shp, shp, _, rfl, ?_⟩
      rw [PySem.SeqAt.eqv_refl _ (show PyData.canLay0 (.list ((rs.map (·.1)).map pathD)) = true from lay_paths hB.pa7)]
      have s0b : Same H Hb := fun b o z => sb b o (s79 b o (s07 b o z))
      have eLb := sb _ _ eL9
      have hPb := hP9.kt (kt_same sb)
      refine ⟨_, rfl, L, rfl, ⟨_, SqL.of eLb⟩, for_list (xs := us) (fun i σ H' => (∃ t4 t5 t6 t7 t8, σ = [some (.ref a), some (.ref d), some (.int 0), some (.ref L), t4, t5, t6, t7, t8]) ∧ Same Hb H') ⟨⟨_, _, _, _, _, rfl⟩, fun _ _ z => z⟩ ?_ ?_ ?_⟩
      · rintro i σ H' _ ⟨_, sx⟩
        exact SqL.of (sx _ _ eLb)
      · rintro i v σ Hc hv ⟨⟨t4, t5, t6, t7, t8, rfl⟩, sx⟩
        obtain ⟨qq, hq, t, pa, k, rfl, et, epa, hroom⟩ := (hPb.kt (kt_same sx)).get hv
        rw [List.getElem?_map] at hq
        obtain ⟨r, hr', rfl⟩ := Option.map_eq_some_iff.mp hq
        have hrm := List.mem_of_getElem? hr'
        have hrq : r.1 ∈ rs.map (·.1) := List.mem_map.mpr ⟨r, hrm, rfl⟩
        have s0c : Same H Hc := fun b o z => sx b o (s0b b o z)
        obtain ⟨es, be, kvs, av, h1, h2, h3, h4, h5, h6⟩ := (hst.same s0c).cell hB.ne hrm
        have br := hB.row r hrm
        refine ⟨t, _, rfl, SqT.of et, rfl, _, _, rfl, _, _, rfl, rfl, ?_⟩
        refine ⟨_, rfl, _, rfl, d, k, es, r.1, _, rfl, rfl, h1, h2, hroom, h3, ?_⟩
        refine ⟨av.2, _, rfl, SqL.of h4, rfl, _, _, rfl, _, _, rfl, _, _, rfl, rfl, ?_⟩
        have hw : r.2.1.natAbs.log2 < 1920 := log_20 br.nu
        have shw : (PyData.int r.2.1).showable = true := decide_eq_true hw
        have lnw : (PyData.int r.2.1).shown.length ≤ sizeLine := Nat.le_trans (num_len1 hw) (by decide)
        refine ⟨_, rfl, _, rfl, a, dx, _, rfl, s0c _ _ ea, a, pa, rs, r, rfl, hpl.same s0c, hB, epa, hrm, fun Hd sd => ?_⟩
        refine ⟨_, .int r.2.1, rfl, .int _, shw, rfl, lnw, (by show 0 ≤ 60; decide), _, rfl, _, .int r.2.1, rfl, .int _, shw, rfl, lnw, (by show 0 ≤ 60; decide), rfl, _, rfl, ?_⟩
        rw [show (!decide (V.str (PyData.int r.2.1).shown = V.str (PyData.int r.2.1).shown)) = false from by rw [decide_eq_true rfl]; rfl]
        have s0d : Same H Hd := fun b o z => sd b o (s0c b o z)
        refine ⟨_, rfl, _, rfl, a, dx, _, rfl, s0d _ _ ea, a, pa, rs, r.1, rfl, hpl.same s0d, hB, sd _ _ epa, hrq, fun He se => ⟨true, rfl, _, rfl, ?_⟩⟩
        have s0e : Same H He := fun b o z => se b o (s0d b o z)
        have sce : Same Hc He := fun b o z => se b o (sd b o z)
        refine ⟨_, rfl, a, dx, _, rfl, s0e _ _ ea, rfl, _, rfl, a, pa, rs, r.1, rfl, hpl.same s0e, hB, sce _ _ epa, hrq, fun kk Hf sf hkk => ?_⟩
        have scf : Same Hc Hf := fun b o z => sf b o (sce b o z)
        have shr := shaped_room (hB.pa7 r.1 hrq)
        refine ⟨_, rfl, _, _, dp_room hkk, dp_room (hroom.kt (kt_same scf)), shr, shr, _, rfl, ?_⟩
        rw [PySem.SeqAt.eqv_refl _ (lay_room (hB.pa7 r.1 hrq))]
        have s0f : Same H Hf := fun b o z => sf b o (s0e b o z)
        refine ⟨_, rfl, a, dx, _, rfl, s0f _ _ ea, rfl, _, rfl, a, pa, rs, r.1, rfl, hpl.same s0f, hB, scf _ _ epa, hrq, fun Ln ys2 Hg sg eLn perm srt => ?_⟩
        refine ⟨Ln, _, rfl, .inl (SqL.of eLn), fun l nl => ?_⟩
        have sh1 := same_upd (o := .lst (ys2.map V.str)) nl
        have el : (upd Hg l (.lst (ys2.map V.str))) l = some (.lst (ys2.map V.str)) := upd_same
        generalize (upd Hg l (.lst (ys2.map V.str))) = Hh at sh1 el ⊢
        have sch : Same Hc Hh := fun b o z => sh1 b o (sg b o (scf b o z))
        have klen : (kids r.1 rs).length < 64 := by
          have h2 : (kids r.1 rs).length ≤ rs.length := List.length_filterMap_le _ _
          omega
        refine ⟨_, rfl, be, kvs, kids r.1 rs, rfl, .inl (sch _ _ h5), h6.keys, klen, fun ys3 p3 perm3 srt3 np3 => ?_⟩
        have e23 : ys2 = ys3 := sorted_one srt srt3 perm perm3
        subst e23
        have si := same_upd (o := .lst (ys2.map V.str)) np3
        have a7y : ∀ n ∈ ys2, A7 n := fun n hn => by
          have hk := kids_iff.mp (perm.mem_iff.mp hn)
          exact hB.pa7 _ hk n (List.mem_append_right _ (List.mem_singleton.mpr rfl))
        refine ⟨_, _, .lst (SqL.of (si _ _ el)) (dp_strs _), .lst (SqL.of upd_same) (dp_strs _), shaped_strs a7y, shaped_strs a7y, _, rfl, ?_⟩
        rw [PySem.SeqAt.eqv_refl _ (show PyData.canLay0 (.list (strsD ys2)) = true from lay_strs a7y)]
        exact ⟨⟨_, _, _, _, _, rfl⟩, fun b o z => si b o (sch b o (sx b o z))⟩
      · rintro σ Hc ⟨⟨t4, t5, t6, t7, t8, rfl⟩, sx⟩
        exact q1 Hc fun b o z => sx b o (s0b b o z)
end
end Law

set_option Elab.async false
set_option linter.all false
set_option maxRecDepth 100000
set_option maxHeartbeats 2000000
/-! The law's call, with tables of code objects, where no repr runs. -/
namespace Cor
open PySem PySem.Spec PyProof.Rows L2 LamX NdefX
theorem law_callGT {P : Program} {w : World} {K : PySem.W.Frag} {mg mb : Str → Option Value} {k : Nat} {fa a : Addr} {cs : List (Addr × Addr)} {fd : FuncData} {x : Str} {sp : Sp} {s1 : Shared} {vs : List Value} {ns : List Int}
    (KX : K.In s1.heap) (hns : s1.heap.Ns mainGlobals mg) (hb : s1.heap.Ns builtinsNs mb) (hbb : ∀ x : Str, x ≠ "__name__" → mb x = bootBuiltins x) (hlim : s1.heap.NoLimit) (hg : s1.gens = #[])
    (tabs : ∀ p ∈ cs, s1.heap.get? p.2 = some { cls := .none, data := .fields #[] }) (notK : ∀ p ∈ cs, K.lookup p.2 = none) (heads : ∀ p ∈ cs, PySem.W.CodeHd s1.heap p.1 p.2)
    (bmod : ∃ (bm : Addr) (ob : Obj), mg "__builtins__" = some (.ref bm) ∧ bm ≠ builtinsNs ∧ s1.heap.get? bm = some ob ∧ ob.cls = .type "module" ∧ ob.dict = some builtinsNs ∧ ob.data = .plain)
    (ha : s1.heap.get? a = some { cls := .type "list", data := .seq vs.toArray }) (hi : IntsAre vs ns) (hl : ns.length ≤ sizeLine) (hr : Room k callerA)
    (F : ∀ base : Heap, K.In base → base.Ns mainGlobals mg → (∀ p ∈ cs, TabB base mg p.1 p.2) → FnG P w K mg base CX0 k fa fd [x] sp) (hbind : ∀ (s : Shared) (u : Value), BindsTo s fd ⟨[u], []⟩ [(x, u)])
    (hsp : ∀ H : Hp, (∀ p ∈ cs, H p.2 = some (.tbl #[])) → SqL K H a (ns.map V.int) → sp [.ref a] H (fun v _ => v = .bl true) fun _ _ _ => False) :
    codeAny (model P w) callerA (.call (.ref fa) ⟨[.ref a], []⟩) (fun r s' => r = .ok (.ret (.bool true)) ∧ OldK s1.heap s'.heap ∧ s'.os = s1.os ∧ AllBare s'.gens) s1 := by
  have rv := vals_ints hi
  have lenV := hi.length
  let L : HO := .frz { cls := .type "list", data := .seq vs.toArray } (.lst (ns.map V.int))
  let isT : Addr → Bool := fun b => cs.any fun p => decide (p.2 = b)
  have isT_of : ∀ {b}, isT b = true → ∃ p ∈ cs, p.2 = b := fun {b} z => by
    obtain ⟨p, hp, e⟩ := List.any_eq_true.mp z
    exact ⟨p, hp, of_decide_eq_true e⟩
  have isT_mem : ∀ p ∈ cs, isT p.2 = true := fun p hp => List.any_eq_true.mpr ⟨p, hp, decide_eq_true rfl⟩
  have tabAt : ∀ {b}, isT b = true → s1.heap.get? b = some { cls := .none, data := .fields #[] } := fun {b} z => by
    obtain ⟨p, hp, e⟩ := isT_of z
    rw [← e]
    exact tabs p hp
  have nTa : isT a = false := by
    cases z : isT a with
    | false => rfl
    | true =>
      have e := tabAt z
      rw [ha] at e
      have y : Data.seq vs.toArray _ = Data.fields #[] := congrArg Obj.data (Option.some.inj e)
      cases y
  let H : Hp := fun b => if isT b = true then some (.tbl #[]) else if b = a ∧ K.lookup a = none then some L else none
  have inH : ∀ b u, H b = some u → (isT b = true ∧ u = .tbl #[]) ∨ (b = a ∧ K.lookup a = none ∧ u = L) := fun b u z => by
    cases y : isT b with
    | true =>
      have z2 : some (HO.tbl #[]) = some u := (if_pos y).symm.trans z
      exact .inl ⟨rfl, (Option.some.inj z2).symm⟩
    | false =>
      have y' : ¬ isT b = true := by rw [y]; exact Bool.false_ne_true
      by_cases c : b = a ∧ K.lookup a = none
      · have z2 : some L = some u := (if_pos c).symm.trans ((if_neg y').symm.trans z)
        exact .inr ⟨c.1, c.2, (Option.some.inj z2).symm⟩
      · have z2 : none = some u := (if_neg c).symm.trans ((if_neg y').symm.trans z)
        cases z2
  have hT : ∀ p ∈ cs, H p.2 = some (.tbl #[]) := fun p hp => if_pos (isT_mem p hp)
  have hok : HOk P w H s1.heap := fun b u z => by
    rcases inH b u z with ⟨y, rfl⟩ | ⟨rfl, _, rfl⟩
    · exact tabAt y
    · exact ⟨ha, by rw [List.length_map]; exact hl, vs, _, rv, ha⟩
  have hS : SqL K H a (ns.map V.int) := by
    cases hk : K.lookup a with
    | none => exact .inl (.inr ⟨{ cls := .type "list", data := .seq vs.toArray }, (if_neg (by rw [nTa]; exact Bool.false_ne_true)).trans (if_pos ⟨rfl, hk⟩)⟩)
    | some o =>
      have e := KX a o hk
      rw [ha] at e
      cases e
      exact .inr ⟨_, vs.toArray, _, hk, rfl, rfl, rfl, by rw [List.size_toArray, lenV]; exact hl, by simpa using rv⟩
  -- what is neither a list nor an empty table is not tracked
  have plain : ∀ {b : Addr} {o : Obj}, s1.heap.get? b = some o → (∀ vs n, o.data ≠ .seq vs n) → o.data ≠ .fields #[] → H b = none := fun {b o} e n1 n2 => by
    cases z : H b with
    | none => rfl
    | some u =>
      rcases inH b u z with ⟨y, _⟩ | ⟨rfl, _, _⟩
      · rw [tabAt y] at e
        cases e
        exact absurd rfl n2
      · rw [ha] at e
        cases e
        exact absurd rfl (n1 _ _)
  have nsK : ∀ {b : Addr} {m : Str → Option Value}, s1.heap.Ns b m → (hidT s1.heap H).Ns b m := fun {b m} ⟨o, es, ep, e, dd, r⟩ => ⟨o, es, ep, hidT_get e (plain e (fun _ _ y => by rw [dd] at y; cases y) fun y => by rw [dd] at y; cases y), dd, r⟩
  have kb : K.In (hidT s1.heap H) := fun b o e => hidT_get (KX b o e) (by
    cases z : H b with
    | none => rfl
    | some u =>
      rcases inH b u z with ⟨y, _⟩ | ⟨rfl, h2, _⟩
      · obtain ⟨p, hp, ep⟩ := isT_of y
        rw [← ep, notK p hp] at e
        cases e
      · rw [h2] at e
        cases e)
  have md : Mod K mg (hidT s1.heap H) := ⟨kb, nsK hns, ⟨mb, nsK hb, hbb⟩, let ⟨mc, h1, h2⟩ := hlim; ⟨mc, nsK h1, h2⟩⟩
  have TB : ∀ p ∈ cs, TabB (hidT s1.heap H) mg p.1 p.2 := fun p hp => by
    have tp := tabs p hp
    refine ⟨?_, ?_, fun z => ?_⟩
    · obtain ⟨o, us, file, tf, flags, tg, inF, text, tt, e1, r1, r2, r3, rest⟩ := heads p hp
      exact ⟨o, us, file, tf, flags, tg, inF, text, tt, hidT_get e1 (plain e1 (fun _ _ y => by rw [r2] at y; cases y) fun y => by rw [r2] at y; cases y; simp at r3), r1, r2, r3, rest⟩
    · obtain ⟨bm, ob, b1, b2, b3, b4, b5, b6⟩ := bmod
      refine ⟨bm, ob, b1, b2, fun q => ?_, fun q => ?_, hidT_get b3 (plain b3 (fun _ _ y => by rw [b6] at y; cases y) fun y => by rw [b6] at y; cases y), b4, b5, b6⟩
      · obtain ⟨o, es, ep, e, dd, _⟩ := hns
        rw [q, e] at b3
        cases b3
        rw [dd] at b6
        cases b6
      · rw [q, tp] at b3
        cases b3
        cases b6
    · obtain ⟨o, es, ep, e, dd, _⟩ := hns
      rw [z, tp] at e
      cases e
      cases dd
  have e0 : Env0 P w K mg (hidT s1.heap H) callerA [] s1 H := ⟨rfl, md, fun b o e => of_hidT e, Nat.le_of_eq (hidT_size _ _), trivial, fun b hb => absurd (show b ∈ ([] : List Addr) from hb) (by simp), hok, .of_eq hg⟩
  refine codeAny_mono ((F _ kb (nsK hns) TB).run callerA [] s1 H ⟨[.ref a], []⟩ [.ref a] [.ref a] _ _ hr rfl e0 (hbind s1 (.ref a)) (.cons rfl .nil) (hsp H hT hS)) fun r s' h => ?_
  match r, h with
  | .error e, h => exact h.elim
  | .ok .next, h => exact h.elim
  | .ok .brk, h => exact h.elim
  | .ok .cont, h => exact h.elim
  | .ok (.ret u), ⟨v, H2, os, bare, un, hok2, r2, q⟩ =>
    obtain rfl : v = .bl true := q
    obtain rfl : u = Value.bool true := r2
    have stays : ∀ b o, isT b = false → s1.heap.get? b = some o → s'.heap.get? b = some o := fun b o nb e => by
      cases z : H b with
      | none => exact un.keep b o e z (by intro y; exact absurd (show b ∈ ([] : List Addr) from y) (by simp)) (by simp)
      | some u =>
        rcases inH b u z with ⟨y, _⟩ | ⟨rfl, _, rfl⟩
        · rw [nb] at y; cases y
        · have z2 := un.frzs b _ _ z
          obtain ⟨e2, _⟩ := hok2 b _ z2
          rw [ha] at e
          cases e
          exact e2
    have grown : ∀ b, isT b = true → ∃ more : Array Value, s'.heap.get? b = some { cls := .none, data := .fields more } := fun b y => by
      obtain ⟨p, hp, ep⟩ := isT_of y
      obtain ⟨more, z⟩ := un.tbls p.2 #[] (hT p hp)
      rw [← ep]
      exact ⟨_, hok2 p.2 _ z⟩
    refine ⟨rfl, ⟨fun b o e => ?_, fun b o e => ?_⟩, os, bare⟩
    · cases y : isT b with
      | false => exact .inl (stays b o y e)
      | true =>
        obtain ⟨p, hp, ep⟩ := isT_of y
        obtain ⟨more, hm⟩ := grown b y
        rw [tabAt y] at e
        cases e
        refine .inr (.inl ⟨?_, rfl, #[], more, rfl, by rw [Array.empty_append]; exact hm⟩)
        rw [← ep]
        exact ((heads p hp).tab (tabs p hp)).isCodeTable
    · cases y : isT b with
      | false => exact ⟨o, stays b o y e⟩
      | true =>
        obtain ⟨more, hm⟩ := grown b y
        exact ⟨_, hm⟩
/-- what is known of the law at the head's heap -/
def LawG (l : PySem.W.OpenLaw) (w : World) (K : PySem.W.Frag) (k n : Nat) (x : Str) (mg : Str → Option Value) (fa : Addr) (h : Heap) : Prop :=
  ∃ (fd : FuncData) (cs : List (Addr × Addr)) (sp : Sp), (∀ p ∈ cs, h.get? p.2 = some { cls := .none, data := .fields #[] }) ∧ (∀ p ∈ cs, K.lookup p.2 = none) ∧ (∀ p ∈ cs, PySem.W.CodeHd h p.1 p.2) ∧ (∀ (s : Shared) (u : Value), BindsTo s fd ⟨[u], []⟩ [(x, u)]) ∧
    (∀ (H : Hp) (a : Addr) (ns : List Int), ns.length ≤ n → (∀ z ∈ ns, Builtin.Int.intBits z ≤ 1048576) → (∀ p ∈ cs, H p.2 = some (.tbl #[])) → SqL K H a (ns.map V.int) → sp [.ref a] H (fun v _ => v = .bl true) fun _ _ _ => False) ∧
    ∀ base : Heap, K.In base → base.Ns mainGlobals mg → (∀ p ∈ cs, TabB base mg p.1 p.2) → FnG l.prog w K mg base CX0 k fa fd [x] sp
theorem walk_ofGT {l : PySem.W.OpenLaw} {n k : Nat} {q : Program} {loose : List Str} {XP : (Str → Option Value) → Heap → Prop} {YP : World → Heap → Prop} {d : DefRec} {K : Params → PySem.W.Frag} {x : Str}
    (hn : l.most = some n) (hn2 : n ≤ sizeLine) (hdf : d.params.defaults = []) (hr : Room k callerA) (hY : ∀ (w : World) (h : Heap), YP w h → (K w.params).In h)
    (F : ∀ (w : World) (mg : Str → Option Value) (fa : Addr) (h : Heap), YP w h → (K w.params).In h → h.Ns mainGlobals mg → mg d.name = some (.ref fa) → LawG l w (K w.params) k n x mg fa h) :
    PySem.W.WalkO q loose XP YP l.row.toRowW d [] (fun f vs => PySem.call f vs) := by
  refine Att.attach_callB hn hdf fun w s0 s1 mg mb fa o pm cd doc a vs ns G Y ho hd hcd hmg hobj hints hlen hbits hg => ?_
  have KX := hY w _ Y
  obtain ⟨fd, cs, sp, hT, nT, C, hb, hsp, hF⟩ := F w mg fa _ Y KX G.T.g hmg
  exact law_callGT KX G.T.g G.T.b G.T.builtins G.T.nolimit hg hT nT C G.T.bmain hobj hints (Nat.le_trans hlen hn2) hr hF hb fun H hH hS => hsp H a ns hlen hbits hH hS
end Cor

set_option Elab.async false
set_option linter.all false
set_option maxRecDepth 100000
set_option maxHeartbeats 1000000
namespace Law
open PySem PySem.Spec PyProof.Rows L2 Cor
/-! ### the law -/
theorem sq_but {K : PySem.W.Frag} {H H1 H2 : Hp} {a p : Addr} {xs : List V} (h : SqL K H a xs) (np : H p = none) (S1 : Same H H1) (SB : SameBut p H1 H2) : SqL K H2 a xs := by
  rcases h with (h | ⟨o, h⟩) | h
  · exact .inl (.inl (SB _ _ (ne_of_none h np) (S1 _ _ h)))
  · exact .inl (.inr ⟨o, SB _ _ (ne_of_none h np) (S1 _ _ h)⟩)
  · exact .inr h
theorem rows_ne {H : Hp} {p L : Addr} {us : List V} {rs : List Rw} (hb : Box H p) (e : H L = some (.lst us)) (hR : RowsAt H us rs) (ne : rs ≠ []) : L ≠ p := fun z => by
  obtain ⟨b, s, c, hp, _⟩ := hb
  rw [z, hp] at e
  cases e
  obtain ⟨r, _, t, pa, e, _⟩ := hR.get (i := 0) rfl
  cases e
abbrev sLaw : Stmt := topS 36
theorem scLaw : FnScope ["_law_script", "_law_k", "_law_box_here", "_law_names_here", "_law_rows", "_law_text_own", "_law_state_here", "_law_store", "_law_again", "_law_turn"] ["_law_script"] (defScope sLaw) := ⟨rfl, rfl, rfl, by decide +kernel, rfl, by decide +kernel, by decide +kernel⟩
def spLaw (K : PySem.W.Frag) : Sp := fun vs H Q _ => ∃ (a : Addr) (ns : List Int), vs = [.ref a] ∧ SqL K H a (ns.map V.int) ∧ ns.length ≤ 63 ∧ ∀ H', Q (.bl true) H'
def spReadQ (P : Program) (w : World) (CN CP CS : Addr) : Sp := fun vs H Q _ => spRead P w CN CP CS vs H Q E0
section
variable {P : Program} {w : World} {K : PySem.W.Frag} {mg : Str → Option Value} {base : Heap} {CN CP CS : Addr}
theorem ok_law {f : Addr} {fd : FuncData} (Fn : Fun K "law" "law" sLaw f fd) (T : GloP K mg) (WP : ClP K mg CP)
    (db : Df P w K mg base "_law_box" 1 ["_law_script", "_law_k", "_law_own"] (spBox K)) (dt : Df P w K mg base "_law_take" 1 ["_law_box_here", "_law_many"] spTk) (dn : Df P w K mg base "_law_names" 3 ["_law_box_here", "_law_many"] spNamesL)
    (ds : Df P w K mg base "_law_start" 2 ["_law_box_here", "_law_names_here", "_law_upto"] spStartN) (dp : Df P w K mg base "_law_deep_rows" 2 ["_law_box_here", "_law_names_here"] spDeep) (dx : Df P w K mg base "_law_start_text" 2 ["_law_rows"] spLTextN)
    (de : Df P w K mg base "_law_state" 1 ["_law_rows"] (spState P w)) (di : DfG P w K mg base "_law_plain_is" 67 ["_law_store", "_law_state_here", "_law_many"] (spPlIs P w CP CS))
    {fr : Addr} {fdr : FuncData} (st : Stm K mg "Plain" CP "read" fr) (FR : FnOk P w K mg base CX0 5 fr fdr ["text"] (spReadQ P w CN CP CS)) (iR : PySem.W.isFn K (.ref fr) = true) (kR : PySem.W.keepIn K (.ref fr) = true) (bR : Binds K fdr ["text"] []) (bK : ∀ (s : Shared) (u : Value), K.In s.heap → BindsTo s fdr ⟨[], [("text", u)]⟩ ((["text"] : List Str).zip [u]))
    {gs : Addr} (bs : PySem.W.findIn K (.ref CP) "__str__" = some (some (.ref gs))) (MS : MdR P w K mg base 64 gs (spStrP P w CP CS))
    {ge : Addr} (be : PySem.W.findIn K (.ref CP) "__eq__" = some (some (.ref ge))) (ME : MdR P w K mg base 67 ge (spEqP P w CP CS))
    (hne : PySem.W.findIn K (.ref CP) "__ne__" = some (some (.builtin "object.__ne__"))) (hob : PySem.W.subIn K (.ref CP) (.type "object") = some true) :
    FnG P w K mg base CX0 69 f fd ["_law_script"] (spLaw K) := by
  refine okG Fn scLaw (k := 68) (fun vs H Q E h => ?_) (fun cdv A outer s H vs Q E hr gd h => ?_)
  · obtain ⟨a, ns, rfl, _⟩ := h
    rfl
  · obtain ⟨a, ns, rfl, hS, hl, q⟩ := h
    have r1 := hr.mono (by omega : 1 ≤ 68)
    have r2 := hr.mono (by omega : 2 ≤ 68)
    have r3 := hr.mono (by omega : 3 ≤ 68)
    have r5 := hr.mono (by omega : 5 ≤ 68)
    have r66 := hr.mono (by omega : 66 ≤ 68)
    have r67 := hr.mono (by omega : 67 ≤ 68)
    have MR : MdR P w K mg base 5 fr (spReadQ P w CN CP CS) := ⟨(FnOk.raw FR bR .nil).imp fun vs H Q E h => by rw [List.append_nil]; exact h, iR, kR⟩
    refine ⟨_, (pss_cons (ps_for PassesOwn.never rfl (pi_range1 (by rfl) T.range (pa_cons (pe_callB (call_max2 rfl) (by rfl) T.max (by decide +kernel) (pa_cons pe_int (pa_cons (pe_callB (call_min2 rfl) (by rfl) T.min (by decide +kernel) (pa_cons pe_int (pa_cons (pe_callB call_len_seq (by rfl) T.len PySem.boot_len (pa_cons (pv 0) pa_nil)) pa_nil))) pa_nil))) pa_nil)) (pg_name (i := 1) scLaw.nd rfl (Or.inl rfl)) (pss_cons (ps_set (i := 2) scLaw.nd rfl (Or.inl rfl) (pe_df (E := E0) db r1 (by rfl) (pa_cons (pv 0) (pa_cons (pv 1) (pa_cons pe_int pa_nil)))))
      (pss_cons (ps_set (i := 3) scLaw.nd rfl (Or.inl rfl) (pe_df (E := E0) dn r3 (by rfl) (pa_cons (pv 2) (pa_cons pe_int pa_nil))))
      (pss_one (ps_for PassesOwn.never rfl (pi_tup (pe_tup (pa_cons (pe_df (E := E0) ds r2 (by rfl) (pa_cons (pv 2) (pa_cons (pv 3) (pa_cons (pe_ix ix_lst (pe_lst (pa_cons pe_int (pa_cons pe_int pa_nil))) (pe_df (E := E0) dt r1 (by rfl) (pa_cons (pv 2) (pa_cons pe_int pa_nil))) (fun _ _ => rfl)) pa_nil)))) (pa_cons (pe_df (E := E0) dp r2 (by rfl) (pa_cons (pv 2) (pa_cons (pv 3) pa_nil))) pa_nil)))) (pg_name (i := 4) scLaw.nd rfl (Or.inl rfl)) (pss_cons (ps_par (i := 5) (j := 6) (by rfl) scLaw.nd rfl rfl (by decide) rfl rfl (pa_cons (pe_df (E := E0) dx r2 (by rfl) (pa_cons (pv 4) pa_nil)) (pa_cons (pe_df (E := E0) de r1 (by rfl) (pa_cons (pv 4) pa_nil)) pa_nil)) (by rfl))
      (pss_cons (ps_par (i := 7) (j := 8) (by rfl) scLaw.nd rfl rfl (by decide) rfl rfl (pa_cons (pe_sm st MR r5 (by rfl) (pa_cons (pv 5) pa_nil)) (pa_cons (pe_smK st FR kR bK r5 (by rfl) (pk_cons (L2.PE.up (pv 5)) pk_nil)) pa_nil)) (by rfl))
      (pss_cons (ps_for PassesOwn.never rfl (pi_range1 (by rfl) T.range (pa_cons pe_int pa_nil)) (pg_name (i := 9) scLaw.nd rfl (Or.inl rfl)) (pss_one (ps_if (pt_not (pt_val (pe_dfG (E := E0) di r67 gd (by rfl) (pa_cons (pv 7) (pa_cons (pv 6) (pa_cons pe_int pa_nil)))))) (pss_one (ps_ret pe_bl)) pss_nil)))
      (pss_one (ps_if (PW.pt (pw_or (pt_not (pt_cmpR (op_owEq be ME r67) (pv 7) (pv 8) (nomark _))) (pw_or (pt_cmpR (op_owNe be hne hob ME hr) (pv 8) (pe_sm st MR r5 (by rfl) (pa_cons (pe_callTy (call_strO bs MS r66) (by rfl) T.str (by decide +kernel) (pa_cons (pv 7) pa_nil)) pa_nil)) (nomark _)) (pw_or1 (pt_cmpR op_ne (pe_callTy (call_strO bs MS r66) (by rfl) T.str (by decide +kernel) (pa_cons (pv 8) pa_nil)) (pv 5) (nomark _)))))) (pss_one (ps_ret pe_bl)) pss_nil))))))))))
      (pss_one (ps_ret pe_bl))), ?_⟩
    refine ⟨_, rfl, a, _, rfl, .inl hS, _, _, rfl, _, _, rfl, _, rfl, ?_, ?_, ?_⟩
    · rw [List.length_map]
      omega
    · rw [List.length_map]
      omega
    have hn : ∀ i : Nat, i < (Int.toNat (if (if ((ns.map V.int).length : Int) < 5 then ((ns.map V.int).length : Int) else 5) > 2 then (if ((ns.map V.int).length : Int) < 5 then ((ns.map V.int).length : Int) else 5) else 2)) → i < 7 := fun i hi => by
      rw [List.length_map] at hi
      omega
    refine for_range (lo := 0) (fun i σ H' => ∃ s1 s2 s3 s4 s5 s6 s7 s8 s9 : Option V, σ = [some (.ref a), s1, s2, s3, s4, s5, s6, s7, s8, s9] ∧ SqL K H' a (ns.map V.int)) ⟨_, _, _, _, _, _, _, _, _, rfl, hS⟩ ?_ ?_
    rotate_left
    · rintro σ H' ⟨s1, s2, s3, s4, s5, s6, s7, s8, s9, rfl, _⟩
      exact q _
    rintro i σ H0 hi ⟨s1, s2, s3, s4, s5, s6, s7, s8, s9, rfl, hS0⟩
    have hi5 := hn i hi
    refine ⟨_, rfl, _, rfl, a, ns, _, _, rfl, hS0, hl, by omega, by omega, by decide, by decide, fun H1 p t1 np hb => ?_⟩
    refine ⟨_, rfl, p, rfl, hb, fun N nms H2 t2 b2 nN eN n4 hB => ?_⟩
    have nNp : N ≠ p := hb.ne nN
    refine ⟨_, rfl, _, rfl, (by show 2 ≤ sizeLine; decide), fun l nl => ?_⟩
    have t3 := same_upd (o := .lst [.int 6, .int 16]) nl
    have el : (upd H2 l (.lst [.int 6, .int 16])) l = some (.lst [.int 6, .int 16]) := upd_same
    have nlp : l ≠ p := b2.ne nl
    have b3 := b2.same t3
    generalize (upd H2 l (.lst [.int 6, .int 16])) = H3 at t3 el b3 ⊢
    refine ⟨_, rfl, p, 2, rfl, b3, by decide, by decide, fun k2 H4 s4 b4 k20 k21 => ?_⟩
    obtain ⟨uu, hu, hat⟩ : ∃ uu : Int, (uu = 6 ∨ uu = 16) ∧ atI [V.int 6, V.int 16] k2 = some (.int uu) := by
      rcases (show k2 = 0 ∨ k2 = 1 by omega) with z | z
      · exact ⟨6, .inl rfl, by rw [z]; rfl⟩
      · exact ⟨16, .inr rfl, by rw [z]; rfl⟩
    have eN4 := s4 _ _ nNp (t3 _ _ eN)
    refine ⟨l, _, k2, _, rfl, rfl, s4 _ _ nlp el, hat, p, N, nms, uu, rfl, by omega, by omega, b4, eN4, nNp, n4, hB, fun L us rs H5 s5 b5 eL hR hBg => ?_⟩
    have eN5 := s5 _ _ nNp eN4
    have nLp : L ≠ p := rows_ne b5 eL hR hBg.ne
    refine ⟨_, rfl, _, rfl, p, N, nms, rfl, b5, eN5, nNp, n4, hB, fun L' us' rs' H6 s6 b6 eL' hR' hBg' => ?_⟩
    have eL6 := s6 _ _ nLp eL
    have hR6 := hR.kp (b5.kp s6)
    refine ⟨(by show 2 ≤ sizeLine; decide), fun tt ntt => ?_⟩
    have s7 := same_upd (o := .tup [.ref L, .ref L']) ntt
    have et : (upd H6 tt (.tup [.ref L, .ref L'])) tt = some (.tup [.ref L, .ref L']) := upd_same
    generalize (upd H6 tt (.tup [.ref L, .ref L'])) = H7 at s7 et ⊢
    have sb7 : SameBut p H1 H7 := fun b o nb z => s7 b o (s6 b o nb (s5 b o nb (s4 b o nb (t3 b o (t2 b o nb z)))))
    have each : ∀ (i : Nat) (v : V), [V.ref L, V.ref L'][i]? = some v → ∃ Lx ux rx, v = .ref Lx ∧ H7 Lx = some (.lst ux) ∧ RowsAt H7 ux rx ∧ Beg rx := fun i v hv => by
      match i, hv with
      | 0, hv => cases hv; exact ⟨L, us, rs, rfl, s7 _ _ eL6, hR6.kp (Same.kp s7), hBg⟩
      | 1, hv => cases hv; exact ⟨L', us', rs', rfl, s7 _ _ eL', hR'.kp (Same.kp s7), hBg'⟩
      | i + 2, hv => cases hv
    refine ⟨tt, rfl, ⟨_, SqT.of et⟩, for_tup (xs := [.ref L, .ref L']) (fun _ σ H' => ∃ s4 s5 s6 s7 s8 s9 : Option V, σ = [some (.ref a), some (.int (0 + (i : Nat))), some (.ref p), some (.ref N), s4, s5, s6, s7, s8, s9] ∧ Same H7 H') ⟨_, _, _, _, _, _, rfl, fun _ _ z => z⟩ ?_ ?_ ?_⟩
    · rintro j σ H' _ ⟨s4, s5, s6, s7, s8, s9, rfl, sx⟩
      exact SqT.of (sx _ _ et)
    rotate_left
    · rintro σ H' ⟨s4, s5, s6, s7, s8, s9, rfl, sx⟩
      exact ⟨_, _, _, _, _, _, _, _, _, rfl, sq_but hS0 np t1 fun b o nb z => sx b o (sb7 b o nb z)⟩
    rintro j v σ H8 hv ⟨s4, s5, s6, s7, s8, s9, rfl, sx⟩
    obtain ⟨Lx, ux, rx, rfl, eLx, hRx, hBx⟩ := each j v hv
    have eL8 := sx _ _ eLx
    have hR8 := hRx.kp (Same.kp sx)
    refine ⟨_, rfl, Lx, ux, rx, rfl, eL8, hR8, hBx, fun H9 s9 => ?_⟩
    refine ⟨_, rfl, Lx, ux, rx, rfl, s9 _ _ eL8, hR8.kp (Same.kp s9), hBx, fun d Ha sa hst => ⟨_, _, rfl, ?_⟩⟩
    have xl : (storeText rx).length ≤ 10000 := Nat.le_trans hBx.len (by decide)
    have x7 := hBx.a7
    refine ⟨_, rfl, storeText rx, rfl, xl, x7, (fun n hn => by rw [hBx.read] at hn; cases hn), fun rq hrq st1 Hb sb hp1 => ?_⟩
    rw [hBx.read] at hrq
    cases hrq
    refine ⟨_, rfl, storeText rx, rfl, xl, x7, (fun n hn => by rw [hBx.read] at hn; cases hn), fun rq hrq st2 Hc sc hp2 => ⟨_, _, rfl, ?_⟩⟩
    rw [hBx.read] at hrq
    cases hrq
    have hp1c := hp1.same sc
    have hstc := (hst.same sb).same sc
    have s8c : Same H8 Hc := fun b o z => sc b o (sb b o (sa b o (s9 b o z)))
    refine ⟨2, rfl, by decide, by decide, for_range (lo := 0) (fun _ σ H' => ∃ t9 : Option V, σ = [some (.ref a), some (.int (0 + (i : Nat))), some (.ref p), some (.ref N), some (.ref Lx), some (.str (storeText rx)), some (.ref d), some (.ref st1), some (.ref st2), t9] ∧ Same Hc H') ⟨_, rfl, fun _ _ z => z⟩ ?_ ?_⟩
    · rintro m σ Hd hm ⟨t9, rfl, sd⟩
      refine ⟨_, rfl, _, rfl, st1, d, rx, rfl, hp1c.same sd, hstc.same sd, hBx, fun He se => ⟨_, rfl, ?_⟩⟩
      exact ⟨_, rfl, fun b o z => se b o (sd b o z)⟩
    · rintro σ Hd ⟨t9, rfl, sd⟩
      have h1 := hp1c.same sd
      have h2 := hp2.same sd
      have h1' := h1
      have h2' := h2
      obtain ⟨dx1, d1, cs1, e1, _⟩ := h1'
      obtain ⟨dx2, d2, cs2, e2, _⟩ := h2'
      refine ⟨_, rfl, _, rfl, st1, dx1, _, st2, dx2, _, rfl, rfl, e1, e2, st1, st2, rx, rfl, h1, h2, hBx, fun He se => ⟨_, rfl, ?_⟩⟩
      have s2e := se _ _ e2
      refine ⟨_, rfl, _, rfl, st1, dx1, _, rfl, se _ _ e1, st1, rx, rfl, h1.same se, hBx.shown, fun Hf sf => ⟨_, rfl, ?_⟩⟩
      refine ⟨storeText rx, rfl, xl, x7, (fun n hn => by rw [hBx.read] at hn; cases hn), fun rq hrq st3 Hg sg hp3 => ?_⟩
      rw [hBx.read] at hrq
      cases hrq
      have h3' := hp3
      obtain ⟨dx3, d3, cs3, e3, _⟩ := h3'
      have sdg : Same Hd Hg := fun b o z => sg b o (sf b o (se b o z))
      refine ⟨st2, dx2, _, st3, dx3, _, rfl, rfl, sdg _ _ e2, e3, st2, st3, rx, rfl, h2.same sdg, hp3, hBx, fun Hh sh => ⟨true, rfl, _, rfl, ?_⟩⟩
      have sdh : Same Hd Hh := fun b o z => sh b o (sdg b o z)
      refine ⟨_, rfl, st2, dx2, _, rfl, sdh _ _ e2, st2, rx, rfl, h2.same sdh, hBx.shown, fun Hi si => ⟨_, rfl, ?_⟩⟩
      refine ⟨_, rfl, rfl, _, rfl, ?_⟩
      rw [show (!decide (V.str (storeText rx) = V.str (storeText rx))) = false from by rw [decide_eq_true rfl]; rfl]
      exact ⟨_, _, _, _, _, _, rfl, fun b o z => si b o (sdh b o (sd b o (s8c b o (sx b o z))))⟩
end
end Law

set_option Elab.async false
set_option linter.all false
set_option maxRecDepth 100000
set_option maxHeartbeats 2000000
namespace Law
open PySem PySem.Spec PyProof.Rows L2 Cor
theorem md_of {P : Program} {w : World} {K : PySem.W.Frag} {mg : Str → Option Value} {base : Heap} {k : Nat} {g : Addr} {fd : FuncData} {ps : List Str} {sp : Sp} (F : FnOk P w K mg base CX0 k g fd ps sp) (b : Binds K fd ps []) : FnR P w K mg base CX0 k g sp :=
  (FnOk.raw F b .nil).imp fun vs H Q E h => by rw [List.append_nil]; exact h
theorem mdx_of {P : Program} {w : World} {K : PySem.W.Frag} {mg : Str → Option Value} {base : Heap} {k : Nat} {g : Addr} {fd : FuncData} {ps : List Str} {sp : Sp} (F : FnOk P w K mg base (L2.CX P w) k g fd ps sp) (b : Binds K fd ps []) : FnR P w K mg base (L2.CX P w) k g sp :=
  (FnOk.raw F b .nil).imp fun vs H Q E h => by rw [List.append_nil]; exact h
def strsB : List Str → List Value → Bool
  | [], [] => true
  | x :: xs, .str y _ :: vs => (x == y) && strsB xs vs
  | _, _ => false
theorem strsB_vals : ∀ {xs : List Str} {vs : List Value}, strsB xs vs = true → Vals (xs.map V.str) vs
  | [], [], _ => .nil
  | [], _ :: _, h => by cases h
  | _ :: _, [], h => by cases h
  | x :: xs, v :: vs, h => by
    cases v with
    | str y t =>
      have h : ((x == y) && strsB xs vs) = true := h
      rw [Bool.and_eq_true] at h
      rw [List.map_cons]
      exact .cons ⟨t, by rw [beq_iff_eq.mp h.1]⟩ (strsB_vals h.2)
    | _ => cases h
theorem all_mk {l : PySem.W.OpenLaw} {w : World} {K : PySem.W.Frag} {h : Heap} {mg : Str → Option Value} {fa : Addr} (X : K.In h) (G : h.Ns mainGlobals mg) (hfa : mg "law" = some (.ref fa))
    (zlen : PySem.W.nsIn K mainGlobals "len" = some none)
    (zabs : PySem.W.nsIn K mainGlobals "abs" = some none)
    (zint : PySem.W.nsIn K mainGlobals "int" = some none)
    (zrange : PySem.W.nsIn K mainGlobals "range" = some none)
    (zmax : PySem.W.nsIn K mainGlobals "max" = some none)
    (zmin : PySem.W.nsIn K mainGlobals "min" = some none)
    (zall : PySem.W.nsIn K mainGlobals "all" = some none)
    (zstr : PySem.W.nsIn K mainGlobals "str" = some none)
    (ztuple : PySem.W.nsIn K mainGlobals "tuple" = some none)
    (zsorted : PySem.W.nsIn K mainGlobals "sorted" = some none)
    (zenumerate : PySem.W.nsIn K mainGlobals "enumerate" = some none)
    (zrepr : PySem.W.nsIn K mainGlobals "repr" = some none)
    (zlist : PySem.W.nsIn K mainGlobals "list" = some none)
    (zisinstance : PySem.W.nsIn K mainGlobals "isinstance" = some none)
    (gLetters : ∃ t, PySem.W.nsIn K mainGlobals "LETTERS" = some (some (.str letS t)))
    (gDigits : ∃ t, PySem.W.nsIn K mainGlobals "DIGITS" = some (some (.str digS t)))
    (gLname : ∃ t, PySem.W.nsIn K mainGlobals "LONGEST_NAME" = some (some (.int 6 t)))
    (gLfig : ∃ t, PySem.W.nsIn K mainGlobals "LONGEST_FIGURE" = some (some (.int 20 t)))
    {RE : Addr}
    (gRes : PySem.W.nsIn K mainGlobals "RESERVED" = some (some (.ref RE)))
    {oRE : Obj} {iRE : Array Value} {nRE : Nat}
    (lRes : K.lookup RE = some oRE)
    (cRes : oRE.cls = .type "tuple")
    (dRes : oRE.data = .seq iRE nRE)
    (sRes : iRE.size ≤ sizeLine)
    (vRes : strsB resW iRE.toList = true)
    {fIsName : Addr}
    (aIsName : PySem.W.nsIn K mainGlobals "is_name" = some (some (.ref fIsName)))
    (FIsName : ∃ fd, Fun K "is_name" "is_name" sIsName fIsName fd)
    {fIsFig : Addr}
    (aIsFig : PySem.W.nsIn K mainGlobals "is_figure" = some (some (.ref fIsFig)))
    (FIsFig : ∃ fd, Fun K "is_figure" "is_figure" sIsFig fIsFig fd)
    {fFigOf : Addr}
    (aFigOf : PySem.W.nsIn K mainGlobals "figure_of" = some (some (.ref fFigOf)))
    (FFigOf : ∃ fd, Fun K "figure_of" "figure_of" sFigOf fFigOf fd)
    {fNumOf : Addr}
    (aNumOf : PySem.W.nsIn K mainGlobals "number_of" = some (some (.ref fNumOf)))
    (FNumOf : ∃ fd, Fun K "number_of" "number_of" sNumOf fNumOf fd)
    {fPathOf : Addr}
    (aPathOf : PySem.W.nsIn K mainGlobals "path_of" = some (some (.ref fPathOf)))
    (FPathOf : ∃ fd, Fun K "path_of" "path_of" sPathOf fPathOf fd)
    {fIsPath : Addr}
    (aIsPath : PySem.W.nsIn K mainGlobals "is_path" = some (some (.ref fIsPath)))
    (FIsPath : ∃ fd, Fun K "is_path" "is_path" sIsPath fIsPath fd)
    {fStart : Addr}
    (aStart : PySem.W.nsIn K mainGlobals "start_rows" = some (some (.ref fStart)))
    (FStart : ∃ fd, Fun K "start_rows" "start_rows" sStart fStart fd)
    {fBelow : Addr}
    (aBelow : PySem.W.nsIn K mainGlobals "places_below" = some (some (.ref fBelow)))
    (FBelow : ∃ fd, Fun K "places_below" "places_below" sBelow fBelow fd)
    {fPathText : Addr}
    (aPathText : PySem.W.nsIn K mainGlobals "path_text" = some (some (.ref fPathText)))
    (FPathText : ∃ fd, Fun K "path_text" "path_text" sPathText fPathText fd)
    {fBox : Addr}
    (aBox : PySem.W.nsIn K mainGlobals "_law_box" = some (some (.ref fBox)))
    (FBox : ∃ fd, Fun K "_law_box" "_law_box" sBox fBox fd)
    {fTake : Addr}
    (aTake : PySem.W.nsIn K mainGlobals "_law_take" = some (some (.ref fTake)))
    (FTake : ∃ fd, Fun K "_law_take" "_law_take" sTake fTake fd)
    {fMixed : Addr}
    (aMixed : PySem.W.nsIn K mainGlobals "_law_mixed" = some (some (.ref fMixed)))
    (FMixed : ∃ fd, Fun K "_law_mixed" "_law_mixed" sMixed fMixed fd)
    {fNamesL : Addr}
    (aNamesL : PySem.W.nsIn K mainGlobals "_law_names" = some (some (.ref fNamesL)))
    (FNamesL : ∃ fd, Fun K "_law_names" "_law_names" sNamesL fNamesL fd)
    {fStartL : Addr}
    (aStartL : PySem.W.nsIn K mainGlobals "_law_start" = some (some (.ref fStartL)))
    (FStartL : ∃ fd, Fun K "_law_start" "_law_start" sStartL fStartL fd)
    {fLPath : Addr}
    (aLPath : PySem.W.nsIn K mainGlobals "_law_path" = some (some (.ref fLPath)))
    (FLPath : ∃ fd, Fun K "_law_path" "_law_path" sLPath fLPath fd)
    {fLText : Addr}
    (aLText : PySem.W.nsIn K mainGlobals "_law_start_text" = some (some (.ref fLText)))
    (FLText : ∃ fd, Fun K "_law_start_text" "_law_start_text" sLText fLText fd)
    {fState : Addr}
    (aState : PySem.W.nsIn K mainGlobals "_law_state" = some (some (.ref fState)))
    (FState : ∃ fd, Fun K "_law_state" "_law_state" sState fState fd)
    {fPathsL : Addr}
    (aPathsL : PySem.W.nsIn K mainGlobals "_law_paths" = some (some (.ref fPathsL)))
    (FPathsL : ∃ fd, Fun K "_law_paths" "_law_paths" sPathsL fPathsL fd)
    {fRowsOf : Addr}
    (aRowsOf : PySem.W.nsIn K mainGlobals "_law_rows_of" = some (some (.ref fRowsOf)))
    (FRowsOf : ∃ fd, Fun K "_law_rows_of" "_law_rows_of" sRowsOf fRowsOf fd)
    {fPlIs : Addr}
    (aPlIs : PySem.W.nsIn K mainGlobals "_law_plain_is" = some (some (.ref fPlIs)))
    (FPlIs : ∃ fd, Fun K "_law_plain_is" "_law_plain_is" sPlIs fPlIs fd)
    {fDeep : Addr}
    (aDeep : PySem.W.nsIn K mainGlobals "_law_deep_rows" = some (some (.ref fDeep)))
    (FDeep : ∃ fd, Fun K "_law_deep_rows" "_law_deep_rows" sDeep fDeep fd)
    {fLaw : Addr}
    (aLaw : PySem.W.nsIn K mainGlobals "law" = some (some (.ref fLaw)))
    (FLaw : ∃ fd, Fun K "law" "law" sLaw fLaw fd)
    (iStart : PySem.W.isFn K (.ref fStart) = true)
    {CS : Addr}
    (aCS : PySem.W.nsIn K mainGlobals "Spot" = some (some (.ref CS)))
    (pgCS : PySem.W.plainGet K CS Str.empty = true)
    (hdCS : PySem.W.hasDictIn K CS = true)
    (poCS : PySem.W.plainOver K CS = true)
    (saCS : PySem.W.findIn K (.ref CS) "__setattr__" = some (some (.builtin "object.__setattr__")))
    (n0CS : PySem.W.findIn K (.ref CS) "much" = some none)
    (n1CS : PySem.W.findIn K (.ref CS) "house" = some none)
    (n2CS : PySem.W.findIn K (.ref CS) "doors" = some none)
    (mkCS : PySem.W.makesIn K CS = true)
    (kpCS : PySem.W.keepIn K (.ref CS) = true)
    {CP : Addr}
    (aCP : PySem.W.nsIn K mainGlobals "Plain" = some (some (.ref CP)))
    (pgCP : PySem.W.plainGet K CP Str.empty = true)
    (hdCP : PySem.W.hasDictIn K CP = true)
    (poCP : PySem.W.plainOver K CP = true)
    (saCP : PySem.W.findIn K (.ref CP) "__setattr__" = some (some (.builtin "object.__setattr__")))
    (n0CP : PySem.W.findIn K (.ref CP) "spots" = some none)
    (n1CP : PySem.W.findIn K (.ref CP) "entered" = some none)
    (mkCP : PySem.W.makesIn K CP = true)
    (kpCP : PySem.W.keepIn K (.ref CP) = true)
    (caC : PySem.W.findIn K (.ref CP) "__class__" = some (some (.builtin "object.__class__")))
    (cnC : PySem.W.specialIn K (.builtin "object.__class__") "__get__" = some (some (.builtin "getset_descriptor.__get__")))
    (ctC : PySem.W.takesIn K (.builtin "object.__class__") = some true)
    (cmC : PySem.W.mroIn K CP (.type "object") = some true)
    (kwC : PySem.W.kitOne K (.ref CP) (.ref CP) = some true)
    (neC : PySem.W.findIn K (.ref CP) "__ne__" = some (some (.builtin "object.__ne__")))
    (obC : PySem.W.subIn K (.ref CP) (.type "object") = some true)
    {gSpotI : Addr}
    (bSpotI : PySem.W.findIn K (.ref CS) "__init__" = some (some (.ref gSpotI)))
    (iSpotI : PySem.W.isFn K (.ref gSpotI) = true)
    (MSpotI : ∃ fd, Fun K "__init__" "Spot.__init__" sSpotI gSpotI fd)
    {gPlainI : Addr}
    (bPlainI : PySem.W.findIn K (.ref CP) "__init__" = some (some (.ref gPlainI)))
    (iPlainI : PySem.W.isFn K (.ref gPlainI) = true)
    (MPlainI : ∃ fd, Fun K "__init__" "Plain.__init__" sPlainI gPlainI fd)
    {gPlaces : Addr}
    (bPlaces : PySem.W.findIn K (.ref CP) "places" = some (some (.ref gPlaces)))
    (iPlaces : PySem.W.isFn K (.ref gPlaces) = true)
    (MPlaces : ∃ fd, Fun K "places" "Plain.places" sPlaces gPlaces fd)
    {gPStr : Addr}
    (bPStr : PySem.W.findIn K (.ref CP) "__str__" = some (some (.ref gPStr)))
    (iPStr : PySem.W.isFn K (.ref gPStr) = true)
    (MPStr : ∃ fd, Fun K "__str__" "Plain.__str__" sPStr gPStr fd)
    {gFound : Addr}
    (bFound : PySem.W.findIn K (.ref CP) "found" = some (some (.ref gFound)))
    (iFound : PySem.W.isFn K (.ref gFound) = true)
    (MFound : ∃ fd, Fun K "found" "Plain.found" sFound gFound fd)
    {gIdent : Addr}
    (bIdent : PySem.W.findIn K (.ref CP) "identity" = some (some (.ref gIdent)))
    (iIdent : PySem.W.isFn K (.ref gIdent) = true)
    (MIdent : ∃ fd, Fun K "identity" "Plain.identity" sIdent gIdent fd)
    {gNamesP : Addr}
    (bNamesP : PySem.W.findIn K (.ref CP) "names" = some (some (.ref gNamesP)))
    (iNamesP : PySem.W.isFn K (.ref gNamesP) = true)
    (MNamesP : ∃ fd, Fun K "names" "Plain.names" sNamesP gNamesP fd)
    {gGetP : Addr}
    (bGetP : PySem.W.findIn K (.ref CP) "__getitem__" = some (some (.ref gGetP)))
    (iGetP : PySem.W.isFn K (.ref gGetP) = true)
    (MGetP : ∃ fd, Fun K "__getitem__" "Plain.__getitem__" sGetP gGetP fd)
    {gHasP : Addr}
    (bHasP : PySem.W.findIn K (.ref CP) "__contains__" = some (some (.ref gHasP)))
    (iHasP : PySem.W.isFn K (.ref gHasP) = true)
    (MHasP : ∃ fd, Fun K "__contains__" "Plain.__contains__" sHasP gHasP fd)
    {gLenP : Addr}
    (bLenP : PySem.W.findIn K (.ref CP) "__len__" = some (some (.ref gLenP)))
    (iLenP : PySem.W.isFn K (.ref gLenP) = true)
    (MLenP : ∃ fd, Fun K "__len__" "Plain.__len__" sLenP gLenP fd)
    {gEqP : Addr}
    (bEqP : PySem.W.findIn K (.ref CP) "__eq__" = some (some (.ref gEqP)))
    (iEqP : PySem.W.isFn K (.ref gEqP) = true)
    (MEqP : ∃ fd, Fun K "__eq__" "Plain.__eq__" sEqP gEqP fd)
    {gPaths : Addr}
    (bPaths : PySem.W.findIn K (.ref CP) "paths" = some (some (.ref gPaths)))
    (iPaths : PySem.W.isFn K (.ref gPaths) = true)
    (MPaths : ∃ fd, Fun K "paths" "Plain.paths" sPaths gPaths fd)
    (fiGet : PySem.W.fnIn K gGetP = true)
    {mcP : Value}
    (tCP : PySem.W.typeIn K (.ref CP) = some mcP)
    (gCP : PySem.W.specialIn K (.ref CP) "__getattribute__" = some (some (.builtin "type.__getattribute__")))
    (rCP : PySem.W.readsIn K CP mcP = true)
    {gRead : Addr}
    {pRead : Addr}
    (bRead : PySem.W.findCls K (.ref CP) mcP "read" = some (.get (.builtin "staticmethod.__get__") (.ref pRead) .none (.ref CP)))
    (cRead : ∃ rest, PySem.W.recIn K pRead "staticmethod" = some (.ref gRead :: rest))
    (iRead : PySem.W.isFn K (.ref gRead) = true)
    (MRead : ∃ fd, Fun K "read" "Plain.read" sRead gRead fd)
    {SE : Addr}
    {CN : Addr}
    {iN : Addr}
    {mcS : Value}
    (aS : PySem.W.nsIn K mainGlobals "StoreError" = some (some (.ref SE)))
    (tS : PySem.W.typeIn K (.ref SE) = some mcS)
    (gS : PySem.W.specialIn K (.ref SE) "__getattribute__" = some (some (.builtin "type.__getattribute__")))
    (rS : PySem.W.readsIn K SE mcS = true)
    (vS : PySem.W.findCls K (.ref SE) mcS "__init__" = some (.val (.builtin "ValueError.__init__")))
    (mN : PySem.W.nsIn K mainGlobals "NoStart" = some (some (.ref CN)))
    (xN : Exn K CN "ValueError.__new__" "ValueError.__init__")
    (fN : PySem.W.findIn K (.ref CN) "row" = some none)
    (jN : PySem.W.findIn K (.ref CN) "__init__" = some (some (.ref iN)))
    (tN : PySem.W.typeIn K (.ref iN) = some (.type "function"))
    (FN : ∃ fd, Fun K "__init__" "NoStart.__init__" sNoStart iN fd)
    : ∃ fd : FuncData, (∀ (s : Shared) (u : Value), BindsTo s fd ⟨[u], []⟩ [("_law_script", u)]) ∧ ∀ base : Heap, K.In base → base.Ns mainGlobals mg → FnG l.prog w K mg base CX0 69 fa fd ["_law_script"] (spLaw K) := by
  have e := hfa.symm.trans (PySem.W.mg_of X G aLaw)
  cases e
  have T : GloP K mg := { toGlo := ⟨PySem.W.mg_none_of X G zlen, PySem.W.mg_none_of X G zabs, PySem.W.mg_none_of X G zint, PySem.W.mg_none_of X G zrange, PySem.W.mg_none_of X G zmax, PySem.W.mg_none_of X G zmin⟩, all := PySem.W.mg_none_of X G zall, str := PySem.W.mg_none_of X G zstr, tuple := PySem.W.mg_none_of X G ztuple, sorted := PySem.W.mg_none_of X G zsorted, enumerate := PySem.W.mg_none_of X G zenumerate, repr := PySem.W.mg_none_of X G zrepr, list := PySem.W.mg_none_of X G zlist, isinstance := PySem.W.mg_none_of X G zisinstance, letters := gLetters.elim fun t ht => ⟨_, PySem.W.mg_of X G ht, t, rfl⟩, digits := gDigits.elim fun t ht => ⟨_, PySem.W.mg_of X G ht, t, rfl⟩, lname := gLname.elim fun t ht => ⟨_, PySem.W.mg_of X G ht, t, rfl⟩, lfig := gLfig.elim fun t ht => ⟨_, PySem.W.mg_of X G ht, t, rfl⟩, res := ⟨RE, PySem.W.mg_of X G gRes, fun H => .inr ⟨oRE, iRE, nRE, lRes, cRes, dRes, sRes, strsB_vals vRes⟩⟩ }
  obtain ⟨dIsName, FIsName⟩ := FIsName
  obtain ⟨dIsFig, FIsFig⟩ := FIsFig
  obtain ⟨dFigOf, FFigOf⟩ := FFigOf
  obtain ⟨dNumOf, FNumOf⟩ := FNumOf
  obtain ⟨dPathOf, FPathOf⟩ := FPathOf
  obtain ⟨dIsPath, FIsPath⟩ := FIsPath
  obtain ⟨dStart, FStart⟩ := FStart
  obtain ⟨dBelow, FBelow⟩ := FBelow
  obtain ⟨dPathText, FPathText⟩ := FPathText
  obtain ⟨dBox, FBox⟩ := FBox
  obtain ⟨dTake, FTake⟩ := FTake
  obtain ⟨dMixed, FMixed⟩ := FMixed
  obtain ⟨dNamesL, FNamesL⟩ := FNamesL
  obtain ⟨dStartL, FStartL⟩ := FStartL
  obtain ⟨dLPath, FLPath⟩ := FLPath
  obtain ⟨dLText, FLText⟩ := FLText
  obtain ⟨dState, FState⟩ := FState
  obtain ⟨dPathsL, FPathsL⟩ := FPathsL
  obtain ⟨dRowsOf, FRowsOf⟩ := FRowsOf
  obtain ⟨dPlIs, FPlIs⟩ := FPlIs
  obtain ⟨dDeep, FDeep⟩ := FDeep
  obtain ⟨dLaw, FLaw⟩ := FLaw
  obtain ⟨dSpotI, MSpotI⟩ := MSpotI
  obtain ⟨dPlainI, MPlainI⟩ := MPlainI
  obtain ⟨dPlaces, MPlaces⟩ := MPlaces
  obtain ⟨dPStr, MPStr⟩ := MPStr
  obtain ⟨dFound, MFound⟩ := MFound
  obtain ⟨dIdent, MIdent⟩ := MIdent
  obtain ⟨dNamesP, MNamesP⟩ := MNamesP
  obtain ⟨dGetP, MGetP⟩ := MGetP
  obtain ⟨dHasP, MHasP⟩ := MHasP
  obtain ⟨dLenP, MLenP⟩ := MLenP
  obtain ⟨dEqP, MEqP⟩ := MEqP
  obtain ⟨dPaths, MPaths⟩ := MPaths
  obtain ⟨dRead, MRead⟩ := MRead
  obtain ⟨dN, FN⟩ := FN
  refine ⟨dLaw, ?_, fun base _ _ => ?_⟩
  · intro s v
    obtain ⟨oc, od, kV, doc, pm, an, cdv, ct, osl, rfl, lk, hcd⟩ := FLaw.ex
    exact .of_eq rfl
  have DTk : Df l.prog w K mg base "_law_take" 1 ["_law_box_here", "_law_many"] spTk := ⟨fTake, dTake, (ok_take FTake T.toGlo).imp fun _ _ _ _ h => spTk_of h, PySem.W.mg_of X G aTake, FTake.kp, FTake.binds (fun _ _ _ _ _ _ us hl => match us, hl with | [_, _], _ => rfl)⟩
  have DB : Df l.prog w K mg base "_law_box" 1 ["_law_script", "_law_k", "_law_own"] (spBox K) := ⟨fBox, dBox, ok_box FBox T.toGlo, PySem.W.mg_of X G aBox, FBox.kp, FBox.binds (fun _ _ _ _ _ _ us hl => match us, hl with | [_, _, _], _ => rfl)⟩
  have DIN : Df l.prog w K mg base "is_name" 1 ["text"] spIsName := ⟨fIsName, dIsName, ok_isName FIsName T, PySem.W.mg_of X G aIsName, FIsName.kp, FIsName.binds (fun _ _ _ _ _ _ us hl => match us, hl with | [_], _ => rfl)⟩
  have DIF : Df l.prog w K mg base "is_figure" 1 ["text"] spIsFig := ⟨fIsFig, dIsFig, ok_isFig FIsFig T, PySem.W.mg_of X G aIsFig, FIsFig.kp, FIsFig.binds (fun _ _ _ _ _ _ us hl => match us, hl with | [_], _ => rfl)⟩
  have DFO : Df l.prog w K mg base "figure_of" 2 ["text"] spFigOf := ⟨fFigOf, dFigOf, ok_figOf FFigOf T DIF, PySem.W.mg_of X G aFigOf, FFigOf.kp, FFigOf.binds (fun _ _ _ _ _ _ us hl => match us, hl with | [_], _ => rfl)⟩
  have DNO : Df l.prog w K mg base "number_of" 3 ["text"] spNumOf := ⟨fNumOf, dNumOf, ok_numOf FNumOf T DFO, PySem.W.mg_of X G aNumOf, FNumOf.kp, FNumOf.binds (fun _ _ _ _ _ _ us hl => match us, hl with | [_], _ => rfl)⟩
  have DPO : Df l.prog w K mg base "path_of" 2 ["text"] spPathOf := ⟨fPathOf, dPathOf, ok_pathOf FPathOf T DIN, PySem.W.mg_of X G aPathOf, FPathOf.kp, FPathOf.binds (fun _ _ _ _ _ _ us hl => match us, hl with | [_], _ => rfl)⟩
  have DIP : Df l.prog w K mg base "is_path" 2 ["value"] spIsPath := ⟨fIsPath, dIsPath, ok_isPath FIsPath T DIN, PySem.W.mg_of X G aIsPath, FIsPath.kp, FIsPath.binds (fun _ _ _ _ _ _ us hl => match us, hl with | [_], _ => rfl)⟩
  have TN : NsT K mg SE CN mcS := ⟨PySem.W.mg_of X G aS, ⟨rS, gS⟩, vS, PySem.W.mg_of X G mN, xN, fN⟩
  have XN : Xcl l.prog w K mg base "NoStart" CN "row" := ⟨_, _, iN, dN, xN, jN, tN, ok_NoStart FN TN, FN.binds (fun _ _ _ _ _ _ us hl => match us, hl with | [_, _], _ => rfl), (fun s a u _ => by
    obtain ⟨oc, od, kV, doc, pm, an, cdv, ct, osl, e0, lk, hcd⟩ := FN.ex
    rw [e0]
    exact .of_eq rfl), PySem.W.mg_of X G mN, fN⟩
  have MS : MdX l.prog w K mg base 4 fStart (spStart CN) := ⟨mdx_of (ok_start FStart T XN DIN DPO DNO) (FStart.binds (fun _ _ _ _ _ _ us hl => match us, hl with | [_], _ => rfl)), iStart, FStart.kp⟩
  have WS : ClS K mg CS := ⟨PySem.W.mg_of X G aCS, ⟨pgCS, hdCS, poCS, saCS⟩, n0CS, n1CS, n2CS⟩
  have WP : ClP K mg CP := ⟨PySem.W.mg_of X G aCP, ⟨pgCP, hdCP, poCP, saCP⟩, n0CP, n1CP⟩
  have CT : ClT K CP := ⟨caC, cnC, ctC, cmC, kwC⟩
  have KS : MkS l.prog w K mg base CS := { toClS := WS, made := ⟨gSpotI, dSpotI, ⟨mkCS, bSpotI, iSpotI, kpCS⟩, ok_spotI MSpotI WS, MSpotI.binds (fun _ _ _ _ _ _ us hl => match us, hl with | [_, _, _], _ => rfl)⟩ }
  have KP : MkP l.prog w K mg base CP := { toClP := WP, made := ⟨gPlainI, dPlainI, ⟨mkCP, bPlainI, iPlainI, kpCP⟩, ok_plainI MPlainI WP, MPlainI.binds (fun _ _ _ _ _ _ us hl => match us, hl with | [_, _, _], _ => rfl)⟩ }
  have FR : FnOk l.prog w K mg base CX0 5 gRead dRead ["text"] (spReadQ l.prog w CN CP CS) := fnOk_quiet (ok_read MRead T KS KP MS (PySem.W.mg_of X G aStart))
  have DBel : Df l.prog w K mg base "places_below" 62 ["spots", "path", "room"] (spBelow l.prog w CS 61) := ⟨fBelow, dBelow, ok_below FBelow T WS (PySem.W.mg_of X G aBelow) 61, PySem.W.mg_of X G aBelow, FBelow.kp, FBelow.binds (fun _ _ _ _ _ _ us hl => match us, hl with | [_, _, _], _ => rfl)⟩
  have DPT : Df l.prog w K mg base "path_text" 1 ["path"] spPathText := ⟨fPathText, dPathText, ok_pathText FPathText, PySem.W.mg_of X G aPathText, FPathText.kp, FPathText.binds (fun _ _ _ _ _ _ us hl => match us, hl with | [_], _ => rfl)⟩
  have DPl : Mt l.prog w K mg base CP "places" 63 ["self"] (spPlaces l.prog w CP CS) := ⟨gPlaces, dPlaces, ⟨bPlaces, iPlaces, MPlaces.kp⟩, ok_places MPlaces T WP DBel, MPlaces.binds (fun _ _ _ _ _ _ us hl => match us, hl with | [_], _ => rfl)⟩
  have MStr : MdR l.prog w K mg base 64 gPStr (spStrP l.prog w CP CS) := ⟨md_of (ok_pStr MPStr T WP WS DPl DPT) (MPStr.binds (fun _ _ _ _ _ _ us hl => match us, hl with | [_], _ => rfl)), iPStr, MPStr.kp⟩
  have DFd : Mt l.prog w K mg base CP "found" 3 ["self", "path"] (spFound l.prog w CP CS) := ⟨gFound, dFound, ⟨bFound, iFound, MFound.kp⟩, ok_found MFound T WP WS DIP, MFound.binds (fun _ _ _ _ _ _ us hl => match us, hl with | [_, _], _ => rfl)⟩
  have DId : Mt l.prog w K mg base CP "identity" 4 ["self", "path"] (spFound l.prog w CP CS) := ⟨gIdent, dIdent, ⟨bIdent, iIdent, MIdent.kp⟩, ok_ident MIdent T WP DFd, MIdent.binds (fun _ _ _ _ _ _ us hl => match us, hl with | [_, _], _ => rfl)⟩
  have DNp : Mt l.prog w K mg base CP "names" 5 ["self", "path"] (spNamesP l.prog w CP CS) := ⟨gNamesP, dNamesP, ⟨bNamesP, iNamesP, MNamesP.kp⟩, ok_namesP MNamesP T WP WS DId, MNamesP.binds (fun _ _ _ _ _ _ us hl => match us, hl with | [_, _], _ => rfl)⟩
  have MGet : MdR l.prog w K mg base 5 gGetP (spGetP l.prog w CP CS) := ⟨md_of (ok_getP MGetP T WP WS DId) (MGetP.binds (fun _ _ _ _ _ _ us hl => match us, hl with | [_, _], _ => rfl)), iGetP, MGetP.kp⟩
  have MHas : MdR l.prog w K mg base 4 gHasP (spHasP l.prog w CP CS) := ⟨md_of (ok_hasP MHasP T WP DFd) (MHasP.binds (fun _ _ _ _ _ _ us hl => match us, hl with | [_, _], _ => rfl)), iHasP, MHasP.kp⟩
  have MLen : MdR l.prog w K mg base 64 gLenP (spLenP l.prog w CP CS) := ⟨md_of (ok_lenP MLenP T WP DPl) (MLenP.binds (fun _ _ _ _ _ _ us hl => match us, hl with | [_], _ => rfl)), iLenP, MLenP.kp⟩
  have MEq : MdR l.prog w K mg base 67 gEqP (spEqP l.prog w CP CS) := ⟨md_of (ok_eqP MEqP T WP CT DPl bPStr MStr) (MEqP.binds (fun _ _ _ _ _ _ us hl => match us, hl with | [_, _], _ => rfl)), iEqP, MEqP.kp⟩
  have BP : PlB l.prog w K mg base CP CS := ⟨WP, WS, ⟨gPStr, bPStr, MStr⟩, ⟨gLenP, bLenP, MLen⟩, ⟨gGetP, bGetP, fiGet, MGet⟩, ⟨gHasP, bHasP, MHas⟩, DId, DNp, ⟨gPaths, dPaths, ⟨bPaths, iPaths, MPaths.kp⟩, ok_paths MPaths WP DPl, MPaths.binds (fun _ _ _ _ _ _ us hl => match us, hl with | [_], _ => rfl)⟩⟩
  have SX : Stm K mg "Plain" CP "read" gRead := ⟨PySem.W.mg_of X G aCP, mcP, ⟨rCP, gCP⟩, pRead, cRead.elim fun r hr => ⟨r, bRead, hr⟩⟩
  have DMx : Df l.prog w K mg base "_law_mixed" 2 ["_law_box_here", "_law_items"] spMixed := ⟨fMixed, dMixed, ok_mixed FMixed T DTk, PySem.W.mg_of X G aMixed, FMixed.kp, FMixed.binds (fun _ _ _ _ _ _ us hl => match us, hl with | [_, _], _ => rfl)⟩
  have DNm : Df l.prog w K mg base "_law_names" 3 ["_law_box_here", "_law_many"] spNamesL := ⟨fNamesL, dNamesL, ok_namesL FNamesL T DTk DMx, PySem.W.mg_of X G aNamesL, FNamesL.kp, FNamesL.binds (fun _ _ _ _ _ _ us hl => match us, hl with | [_, _], _ => rfl)⟩
  have DSt : Df l.prog w K mg base "_law_start" 2 ["_law_box_here", "_law_names_here", "_law_upto"] spStartN := ⟨fStartL, dStartL, ok_startN FStartL T DTk, PySem.W.mg_of X G aStartL, FStartL.kp, FStartL.binds (fun _ _ _ _ _ _ us hl => match us, hl with | [_, _, _], _ => rfl)⟩
  have DPa : Df l.prog w K mg base "_law_path" 1 ["_law_path_here"] spPathText := ⟨fLPath, dLPath, ok_lPath FLPath, PySem.W.mg_of X G aLPath, FLPath.kp, FLPath.binds (fun _ _ _ _ _ _ us hl => match us, hl with | [_], _ => rfl)⟩
  have DTx : Df l.prog w K mg base "_law_start_text" 2 ["_law_rows"] spLTextN := ⟨fLText, dLText, ok_lTextN FLText T DPa, PySem.W.mg_of X G aLText, FLText.kp, FLText.binds (fun _ _ _ _ _ _ us hl => match us, hl with | [_], _ => rfl)⟩
  have DDe : Df l.prog w K mg base "_law_deep_rows" 2 ["_law_box_here", "_law_names_here"] spDeep := ⟨fDeep, dDeep, ok_deep FDeep T DTk, PySem.W.mg_of X G aDeep, FDeep.kp, FDeep.binds (fun _ _ _ _ _ _ us hl => match us, hl with | [_, _], _ => rfl)⟩
  have DSe : Df l.prog w K mg base "_law_state" 1 ["_law_rows"] (spState l.prog w) := ⟨fState, dState, ok_state FState T, PySem.W.mg_of X G aState, FState.kp, FState.binds (fun _ _ _ _ _ _ us hl => match us, hl with | [_], _ => rfl)⟩
  have DPs : Df l.prog w K mg base "_law_paths" 1 ["_law_state_here"] (spPathsL l.prog w) := ⟨fPathsL, dPathsL, ok_pathsL FPathsL T, PySem.W.mg_of X G aPathsL, FPathsL.kp, FPathsL.binds (fun _ _ _ _ _ _ us hl => match us, hl with | [_], _ => rfl)⟩
  have DRo : Df l.prog w K mg base "_law_rows_of" 2 ["_law_state_here"] (spRowsOf l.prog w) := ⟨fRowsOf, dRowsOf, ok_rowsOf FRowsOf T DPs, PySem.W.mg_of X G aRowsOf, FRowsOf.kp, FRowsOf.binds (fun _ _ _ _ _ _ us hl => match us, hl with | [_], _ => rfl)⟩
  have DPi : DfG l.prog w K mg base "_law_plain_is" 67 ["_law_store", "_law_state_here", "_law_many"] (spPlIs l.prog w CP CS) := ⟨fPlIs, dPlIs, ok_plIs FPlIs T BP DPs DRo DTx, PySem.W.mg_of X G aPlIs, FPlIs.kp, FPlIs.binds (fun _ _ _ _ _ _ us hl => match us, hl with | [_, _, _], _ => rfl)⟩
  have bK : ∀ (s : Shared) (u : Value), K.In s.heap → BindsTo s dRead ⟨[], [("text", u)]⟩ ((["text"] : List Str).zip [u]) := fun s u _ => by
    obtain ⟨oc, od, kV, doc, pm, an, cdv, ct, osl, e0, lk, hcd⟩ := MRead.ex
    rw [e0]
    exact .of_eq rfl
  exact ok_law FLaw T WP DB DTk DNm DSt DDe DTx DSe DPi SX FR iRead MRead.kp (MRead.binds (fun _ _ _ _ _ _ us hl => match us, hl with | [_], _ => rfl)) bK bPStr MStr bEqP MEq neC obC
theorem walk {l : PySem.W.OpenLaw} {q : Program} {loose : List Str} {XP : (Str → Option Value) → Heap → Prop} {YP : World → Heap → Prop} {d : DefRec} {K : Params → PySem.W.Frag} (hn : l.most = some 63) (hdf : d.params.defaults = [])
    (hY : ∀ (w : World) (h : Heap), YP w h → (K w.params).In h)
    (F : ∀ (w : World) (mg : Str → Option Value) (fa : Addr) (h : Heap), (K w.params).In h → h.Ns mainGlobals mg → mg d.name = some (.ref fa) →
      ∃ fd : FuncData, (∀ (s : Shared) (u : Value), BindsTo s fd ⟨[u], []⟩ [("_law_script", u)]) ∧ ∀ base : Heap, (K w.params).In base → base.Ns mainGlobals mg → FnG l.prog w (K w.params) mg base CX0 69 fa fd ["_law_script"] (spLaw (K w.params))) :
    PySem.W.WalkO q loose XP YP l.row.toRowW d [] (fun f vs => PySem.call f vs) :=
  walk_ofG (n := 63) (k := 69) (x := "_law_script") (CX := fun _ => CX0) (sp := fun w => spLaw (K w.params)) hn (by decide) hdf ⟨rfl, by decide, by decide⟩ hY F (fun _ _ a ns hl _ hS => ⟨a, ns, rfl, hS, hl, fun _ => rfl⟩) fun _ _ _ _ _ z => z
end Law

set_option Elab.async false
open PySem PySem.W PyProof.Rows in
set_option maxRecDepth 100000 in
set_option maxHeartbeats 0 in
theorem PySem.Challenge.cw_corridors_k19_stores_read_and_shown_holds : PySem.Challenge.rw_corridors_k19_stores_read_and_shown.Holds := by
  w_on; o_law; k_head; (case hw => w_witness2)
  k_fill
  refine Law.walk (l := PySem.Challenge.rw_corridors_k19_stores_read_and_shown) rfl rfl (fun w h Y => PySem.W.kIn_of Y) ?F
  case F =>
    intro w mg fa h KX G hmg
    refine' Law.all_mk KX G hmg ?zlen ?zabs ?zint ?zrange ?zmax ?zmin ?zall ?zstr ?ztuple ?zsorted ?zenumerate ?zrepr ?zlist ?zisinstance ?gLetters ?gDigits ?gLname ?gLfig ?gRes ?lRes ?cRes ?dRes ?sRes ?vRes ?aIsName ?FIsName ?aIsFig ?FIsFig ?aFigOf ?FFigOf ?aNumOf ?FNumOf ?aPathOf ?FPathOf ?aIsPath ?FIsPath ?aStart ?FStart ?aBelow ?FBelow ?aPathText ?FPathText ?aBox ?FBox ?aTake ?FTake ?aMixed ?FMixed ?aNamesL ?FNamesL ?aStartL ?FStartL ?aLPath ?FLPath ?aLText ?FLText ?aState ?FState ?aPathsL ?FPathsL ?aRowsOf ?FRowsOf ?aPlIs ?FPlIs ?aDeep ?FDeep ?aLaw ?FLaw ?iStart ?aCS ?pgCS ?hdCS ?poCS ?saCS ?n0CS ?n1CS ?n2CS ?mkCS ?kpCS ?aCP ?pgCP ?hdCP ?poCP ?saCP ?n0CP ?n1CP ?mkCP ?kpCP ?caC ?cnC ?ctC ?cmC ?kwC ?neC ?obC ?bSpotI ?iSpotI ?MSpotI ?bPlainI ?iPlainI ?MPlainI ?bPlaces ?iPlaces ?MPlaces ?bPStr ?iPStr ?MPStr ?bFound ?iFound ?MFound ?bIdent ?iIdent ?MIdent ?bNamesP ?iNamesP ?MNamesP ?bGetP ?iGetP ?MGetP ?bHasP ?iHasP ?MHasP ?bLenP ?iLenP ?MLenP ?bEqP ?iEqP ?MEqP ?bPaths ?iPaths ?MPaths ?fiGet ?tCP ?gCP ?rCP ?bRead ?cRead ?iRead ?MRead ?aS ?tS ?gS ?rS ?vS ?mN ?xN ?fN ?jN ?tN ?FN
    (case zlen => k_is)
    (case zabs => k_is)
    (case zint => k_is)
    (case zrange => k_is)
    (case zmax => k_is)
    (case zmin => k_is)
    (case zall => k_is)
    (case zstr => k_is)
    (case ztuple => k_is)
    (case zsorted => k_is)
    (case zenumerate => k_is)
    (case zrepr => k_is)
    (case zlist => k_is)
    (case zisinstance => k_is)
    (case gLetters => exact ⟨_, by first | k_is | kernel_rfl⟩)
    (case gDigits => exact ⟨_, by first | k_is | kernel_rfl⟩)
    (case gLname => exact ⟨_, by first | k_is | kernel_rfl⟩)
    (case gLfig => exact ⟨_, by first | k_is | kernel_rfl⟩)
    (case gRes => k_is)
    (case lRes => k_is)
    (case cRes => rfl)
    (case dRes => rfl)
    (case sRes => decide +kernel)
    (case vRes => first | kernel_rfl | decide +kernel)
    (case aIsName => k_is)
    (case FIsName => exact ⟨_, L2.fun_mk (by k_is) (by k_is) (by k_is)⟩)
    (case aIsFig => k_is)
    (case FIsFig => exact ⟨_, L2.fun_mk (by k_is) (by k_is) (by k_is)⟩)
    (case aFigOf => k_is)
    (case FFigOf => exact ⟨_, L2.fun_mk (by k_is) (by k_is) (by k_is)⟩)
    (case aNumOf => k_is)
    (case FNumOf => exact ⟨_, L2.fun_mk (by k_is) (by k_is) (by k_is)⟩)
    (case aPathOf => k_is)
    (case FPathOf => exact ⟨_, L2.fun_mk (by k_is) (by k_is) (by k_is)⟩)
    (case aIsPath => k_is)
    (case FIsPath => exact ⟨_, L2.fun_mk (by k_is) (by k_is) (by k_is)⟩)
    (case aStart => k_is)
    (case FStart => exact ⟨_, L2.fun_mk (by k_is) (by k_is) (by k_is)⟩)
    (case aBelow => k_is)
    (case FBelow => exact ⟨_, L2.fun_mk (by k_is) (by k_is) (by k_is)⟩)
    (case aPathText => k_is)
    (case FPathText => exact ⟨_, L2.fun_mk (by k_is) (by k_is) (by k_is)⟩)
    (case aBox => k_is)
    (case FBox => exact ⟨_, L2.fun_mk (by k_is) (by k_is) (by k_is)⟩)
    (case aTake => k_is)
    (case FTake => exact ⟨_, L2.fun_mk (by k_is) (by k_is) (by k_is)⟩)
    (case aMixed => k_is)
    (case FMixed => exact ⟨_, L2.fun_mk (by k_is) (by k_is) (by k_is)⟩)
    (case aNamesL => k_is)
    (case FNamesL => exact ⟨_, L2.fun_mk (by k_is) (by k_is) (by k_is)⟩)
    (case aStartL => k_is)
    (case FStartL => exact ⟨_, L2.fun_mk (by k_is) (by k_is) (by k_is)⟩)
    (case aLPath => k_is)
    (case FLPath => exact ⟨_, L2.fun_mk (by k_is) (by k_is) (by k_is)⟩)
    (case aLText => k_is)
    (case FLText => exact ⟨_, L2.fun_mk (by k_is) (by k_is) (by k_is)⟩)
    (case aState => k_is)
    (case FState => exact ⟨_, L2.fun_mk (by k_is) (by k_is) (by k_is)⟩)
    (case aPathsL => k_is)
    (case FPathsL => exact ⟨_, L2.fun_mk (by k_is) (by k_is) (by k_is)⟩)
    (case aRowsOf => k_is)
    (case FRowsOf => exact ⟨_, L2.fun_mk (by k_is) (by k_is) (by k_is)⟩)
    (case aPlIs => k_is)
    (case FPlIs => exact ⟨_, L2.fun_mk (by k_is) (by k_is) (by k_is)⟩)
    (case aDeep => k_is)
    (case FDeep => exact ⟨_, L2.fun_mk (by k_is) (by k_is) (by k_is)⟩)
    (case aLaw => k_is)
    (case FLaw => exact ⟨_, L2.fun_mk (by k_is) (by k_is) (by k_is)⟩)
    (case iStart => first | k_is | kernel_rfl)
    (case aCS => k_is)
    (case pgCS => first | k_is | kernel_rfl)
    (case hdCS => first | k_is | kernel_rfl)
    (case poCS => first | k_is | kernel_rfl)
    (case saCS => k_is)
    (case n0CS => k_is)
    (case n1CS => k_is)
    (case n2CS => k_is)
    (case mkCS => first | k_is | kernel_rfl)
    (case kpCS => first | k_is | kernel_rfl)
    (case aCP => k_is)
    (case pgCP => first | k_is | kernel_rfl)
    (case hdCP => first | k_is | kernel_rfl)
    (case poCP => first | k_is | kernel_rfl)
    (case saCP => k_is)
    (case n0CP => k_is)
    (case n1CP => k_is)
    (case mkCP => first | k_is | kernel_rfl)
    (case kpCP => first | k_is | kernel_rfl)
    (case caC => k_is)
    (case cnC => k_is)
    (case ctC => first | k_is | kernel_rfl)
    (case cmC => first | k_is | kernel_rfl)
    (case kwC => first | k_is | kernel_rfl)
    (case neC => k_is)
    (case obC => first | k_is | kernel_rfl)
    (case bSpotI => k_is)
    (case iSpotI => first | k_is | kernel_rfl)
    (case MSpotI => exact ⟨_, L2.fun_mk (by k_is) (by k_is) (by k_is)⟩)
    (case bPlainI => k_is)
    (case iPlainI => first | k_is | kernel_rfl)
    (case MPlainI => exact ⟨_, L2.fun_mk (by k_is) (by k_is) (by k_is)⟩)
    (case bPlaces => k_is)
    (case iPlaces => first | k_is | kernel_rfl)
    (case MPlaces => exact ⟨_, L2.fun_mk (by k_is) (by k_is) (by k_is)⟩)
    (case bPStr => k_is)
    (case iPStr => first | k_is | kernel_rfl)
    (case MPStr => exact ⟨_, L2.fun_mk (by k_is) (by k_is) (by k_is)⟩)
    (case bFound => k_is)
    (case iFound => first | k_is | kernel_rfl)
    (case MFound => exact ⟨_, L2.fun_mk (by k_is) (by k_is) (by k_is)⟩)
    (case bIdent => k_is)
    (case iIdent => first | k_is | kernel_rfl)
    (case MIdent => exact ⟨_, L2.fun_mk (by k_is) (by k_is) (by k_is)⟩)
    (case bNamesP => k_is)
    (case iNamesP => first | k_is | kernel_rfl)
    (case MNamesP => exact ⟨_, L2.fun_mk (by k_is) (by k_is) (by k_is)⟩)
    (case bGetP => k_is)
    (case iGetP => first | k_is | kernel_rfl)
    (case MGetP => exact ⟨_, L2.fun_mk (by k_is) (by k_is) (by k_is)⟩)
    (case bHasP => k_is)
    (case iHasP => first | k_is | kernel_rfl)
    (case MHasP => exact ⟨_, L2.fun_mk (by k_is) (by k_is) (by k_is)⟩)
    (case bLenP => k_is)
    (case iLenP => first | k_is | kernel_rfl)
    (case MLenP => exact ⟨_, L2.fun_mk (by k_is) (by k_is) (by k_is)⟩)
    (case bEqP => k_is)
    (case iEqP => first | k_is | kernel_rfl)
    (case MEqP => exact ⟨_, L2.fun_mk (by k_is) (by k_is) (by k_is)⟩)
    (case bPaths => k_is)
    (case iPaths => first | k_is | kernel_rfl)
    (case MPaths => exact ⟨_, L2.fun_mk (by k_is) (by k_is) (by k_is)⟩)
    (case fiGet => first | k_is | kernel_rfl)
    (case tCP => k_is)
    (case gCP => k_is)
    (case rCP => k_is)
    (case bRead => k_is)
    (case cRead => exact ⟨_, by k_is⟩)
    (case iRead => first | k_is | kernel_rfl)
    (case MRead => exact ⟨_, L2.fun_mk (by k_is) (by k_is) (by k_is)⟩)
    (case aS => k_is)
    (case tS => k_is)
    (case gS => k_is)
    (case rS => k_is)
    (case vS => k_is)
    (case mN => k_is)
    (case xN => exact Cor.exn_mk Cor.bas_value (by k_is) rfl (by kernel_rfl))
    (case fN => k_is)
    (case jN => k_is)
    (case tN => k_is)
    (case FN => exact ⟨_, L2.fun_mk (by k_is) (by k_is) (by k_is)⟩)
#print axioms PySem.Challenge.cw_corridors_k19_stores_read_and_shown_holds
