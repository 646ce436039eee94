import PyProof.Rows.All
import Wide.All
import OpenK.AllK
import Wide.FinOn
import HandS.ForMost
import HandS.EndBits
import PyProof.ReprRoads
import HandS.Wide
import HandS.Star
import HandS.SlotsOwn
import HandS.Property
import HandS.ClsMeth
import KE.KOpsOwn
import KE.KFmtOwn
import PyProof.InstNe
import PyProof.Rows.ReprOcc
import PyProof.StrHeap
import HandS.Lambda
import HandS.Nested
import HandS.More
import KE.KNestM
import HandS.ListItems
import HandS.Text
import HandS.Codes
import HandS.Iter
import HandS.Walk
import HandS.Steps
import HandS.Comp
import KE.IntTextLaws
import HandS.SortKw
import KE.DataMinMax
import PyProof.RulesMatch
import HandS.IsInst
import HandS.Strs
import HandS.SetFor
import HandS.FStr
import HandS.Exc
import HandS.ExcInit
import HandS.ExcIs
import KE.KExcInit
import KE.KExcIs
import HandS.MakeKwOnly
import HandS.ReplaceList
import HandS.Replace
import HandS.ReplaceLit
import HandS.ReplaceDef
import HandS.WordsExc
import HandS.EndTab
import HandS.TryOnly
import HandS.ExcField
import HandS.Conv
import PyProof.ListStr
import PyProof.StrOps2
import HandS.OwnEq
import PyProof.NeKinds
import KE.DataFind
import PyProof.Rows.SortShellAny
import HandS.GenBody
import HandS.GenYield
import HandS.GenCall
import HandS.GenList
import PyProof.GenComp
import PyProof.DictUpdate
import HandS.DictTup
import HandS.Dict
import PyProof.RowDictHeap
import HandS.Style
import HandS.Flow
import PySem.Challenge.RW_corridors_k08_texts_of_worths
set_option Elab.async false
set_option linter.all false
set_option maxRecDepth 100000
set_option maxHeartbeats 1000000
namespace Cor
open PySem PySem.Spec PyProof.Rows L2
/-- as FnOk, for callers under which no guarded code runs -/
structure FnG (P : Program) (w : World) (K : PySem.W.Frag) (mg : Str → Option Value) (base : Heap) (CX : CXT) (k : Nat) (f : Addr) (fd : FuncData) (ps : List Str) (sp : Sp) : Prop where
  len : ∀ vs H Q E, sp vs H Q E → vs.length = ps.length
  run : ∀ (A : Around) (outer : List Env) (s : Shared) (H : Hp) (args : Args) (us : List Value) (vs : List V) (Q : VK) (E : XK), Room k A → A.guards = some [] → Env0 P w K mg base A outer s H → BindsTo s fd args (ps.zip us) → Vals vs us → sp vs H Q E →
    codeAny (model P w) A (.call (.ref f) args) (CR CX outer P w H s Q E) s
theorem FnG.of {P : Program} {w : World} {K : PySem.W.Frag} {mg : Str → Option Value} {base : Heap} {CX : CXT} {k : Nat} {f : Addr} {fd : FuncData} {ps : List Str} {sp : Sp} (F : FnOk P w K mg base CX k f fd ps sp) : FnG P w K mg base CX k f fd ps sp :=
  ⟨F.len, fun A outer s H args us vs Q E hr _ => F.run A outer s H args us vs Q E hr⟩
theorem FnG.mono {P : Program} {w : World} {K : PySem.W.Frag} {mg : Str → Option Value} {base : Heap} {CX : CXT} {j k : Nat} {f : Addr} {fd : FuncData} {ps : List Str} {sp : Sp} (F : FnG P w K mg base CX j f fd ps sp) (h : j ≤ k) : FnG P w K mg base CX k f fd ps sp :=
  ⟨F.len, fun A outer s H args us vs Q E hr => F.run A outer s H args us vs Q E (hr.mono h)⟩
section
variable {X : Cx} {CX : CXT} {k : Nat} {f : Addr} {fd : FuncData} {ps : List Str} {sp : Sp} {dvs : List V} {ds : List Value} {E : XK} {x : Str} {p pos : Pos} {e : Expr} {es : List Expr} {t : TA}
theorem run_fnG {pins : List (Addr × Obj)} {σ : L2.St} {H : Hp} {s : Shared} {Q : VK} {us : List Value} {vs : List V} (F : FnG X.prog X.w X.K X.mg X.base CX k f fd ps sp) (hr : Room k X.A) (gd : X.A.guards = some []) (hb : Binds X.K fd ps ds) (hd : Vals dvs ds) (hx : Passes CX X E)
    (I : Inv X pins σ H s) (r : Vals vs us) (h : sp (vs ++ dvs) H Q E) : wpAny (model X.prog X.w) X.A (call (.ref f) us) (EP X pins σ Q) X.xe s := by
  have rr : Vals (vs ++ dvs) (us ++ ds) := r.append hd
  have hl : (us ++ ds).length = ps.length := rr.length.symm.trans (F.len _ _ _ _ h)
  refine wpAny_call (codeAny_mono (F.run X.A X.stack s H ⟨us, []⟩ (us ++ ds) (vs ++ dvs) Q E hr gd I.env0 (hb s us I.kIn hl) rr h) fun z s' hz => ?_)
  match z, hz with
  | .error e, hz => exact hx pins σ H s e s' I hz
  | .ok (.ret u), hz => exact I.after hz
  | .ok .next, hz => exact hz.elim
  | .ok .brk, hz => exact hz.elim
  | .ok .cont, hz => exact hz.elim
theorem pe_callG (F : FnG X.prog X.w X.K X.mg X.base CX k f fd ps sp) (hr : Room k X.A) (gd : X.A.guards = some []) (hg : Gl X x) (hm : X.mg x = some (.ref f)) (hk : PySem.W.keepIn X.K (.ref f) = true) (hb : Binds X.K fd ps ds) (hd : Vals dvs ds) (hx : Passes CX X E)
    (ha : PA X (e :: es) t) (hdb : (x == ("__debug__" : Str)) = false := by decide) (he : starEach (e :: es) X.env = (false, eval e X.env) :: starEach es X.env := by rfl) (hpl : (backTo pos (starEach es X.env)).any (·.1) = false := by rfl) :
    PE X (.Call (.Name x p) (e :: es) [] pos) (tCall sp dvs E t) := by
  refine ⟨fun pins s σ H Q I h => ?_⟩
  refine wpAny_Call_Name_kw (ld_glob I hg hm ?_ hdb)
  refine PySem.W.callWith_K (h₀ := X.base) I.ok.mod.kin hk (thn (ha.run pos pins s σ H _ I h) fun us s1 ⟨vs, H1, I1, r, q⟩ => ⟨I1.kIn, ?_⟩) he hpl
  exact run_fnG F hr gd hb hd hx I1 r q
end
section
variable {P : Program} {w : World} {K : PySem.W.Frag} {mg : Str → Option Value} {base : Heap}
theorem fn_ofG {CX : CXT} {k : Nat} {f : Addr} {name qual : Str} {params : Arguments} {body : List Stmt} {scope : Scope} {dV kV doc pm cdv ct oc : Value} {an od : Option Addr}
    {osl : Array (Option Value)} {N ps : List Str} {sp : Sp} (lk : K.lookup f = some ⟨oc, od, .func (PySem.W.fnOf name qual params body scope dV kV doc pm an cdv ct), osl⟩) (hcd : PySem.W.codeIn K cdv qual = true) (S : FnScope N ps scope)
    (len : ∀ vs H Q E, sp vs H Q E → vs.length = ps.length)
    (hbody : ∀ (A : Around) (outer : List Env) (s : Shared) (H : Hp) (vs : List V) (Q : VK) (E : XK), Room k (A.deeper (envOfC qual scope s.heap.objs.size f cdv)) → A.guards = some [] → sp vs H Q E →
      ∃ t, PSs (cxOf CX P w K mg base N qual scope f cdv A outer s H E) body t ∧ t { nx := fun _ H' => Q .non H', rt := Q } (start N vs) H) :
    FnG P w K mg base CX (k + 1) f (PySem.W.fnOf name qual params body scope dV kV doc pm an cdv ct) ps sp := by
  refine ⟨len, fun A outer s H args us vs Q E hr gd e0 hb r hsp => ?_⟩
  have hl := len _ _ _ _ hsp
  have KX : K.In s.heap := e0.mod.kin.keeps fun b o e => (e0.bs b o e).1
  have lim : s.heap.NoLimit := e0.mod.nolimit.keeps fun b o e => (e0.bs b o e).1
  have kinds : ∀ y ∈ ps.zip us, scope.names.lookup y.1 = some .local ∨ (scope.names.lookup y.1 = some .cell ∧ ((cellsFrom (s.heap.objs.size + 1) scope.names []).lookup y.1).isSome = true) := fun ⟨n, v⟩ hy =>
    (S.par n (List.of_mem_zip hy).1).imp id fun q => ⟨q, PySem.W.cellsFrom_some _ _ _ (.inl q)⟩
  refine codeAny_call_function hr.depth (KX _ _ lk) rfl S.co S.gen rfl (PySem.W.codeRec_of KX hcd) (hb _ _ _ _ ?_)
  refine wpAny_newFunctionEnv_cells S.kind kinds fun env he s1 x => ?_
  subst he
  refine ⟨lim.keeps x.toInCall.keep, codeAny_func ?_⟩
  obtain ⟨t, ht, hq⟩ := hbody A outer s H vs Q E (hr.deeper _) gd hsp
  have I : Inv (cxOf CX P w K mg base N qual scope f cdv A outer s H E) [] (start N vs) H s1 := inv_start S hr.hd e0 hl r x
  refine wpAny_mono (ht.run [] s1 (start N vs) H _ I hq) (fun fl s' hs => ?_) fun e s' hs => hs
  match fl, hs with
  | .ret u, ⟨v, σ', H', J, rv, q⟩ => exact ⟨v, H', J.os, J.bare, J.base, J.hok, rv, q⟩
  | .next, ⟨σ', H', J, q⟩ => exact ⟨V.non, H', J.os, J.bare, J.base, J.hok, (rfl : Value.none = Value.none), q⟩
  | .brk, ⟨_, _, _, q⟩ => exact q.elim
  | .cont, ⟨_, _, _, q⟩ => exact q.elim
theorem okG {x qual : Str} {st : Stmt} {f : Addr} {fd : FuncData} {N ps : List Str} {k : Nat} {sp : Sp} (F : Fun K x qual st f fd) (S : FnScope N ps (defScope st)) (len : ∀ vs H Q E, sp vs H Q E → vs.length = ps.length)
    (hbody : ∀ (cdv : Value) (A : Around) (outer : List Env) (s : Shared) (H : Hp) (vs : List V) (Q : VK) (E : XK), Room k (A.deeper (envOfC qual (defScope st) s.heap.objs.size f cdv)) → A.guards = some [] → sp vs H Q E →
      ∃ t, PSs (cxOf CX0 P w K mg base N qual (defScope st) f cdv A outer s H E).nox (defBody st) t ∧ t { nx := fun _ H' => Q .non H', rt := Q } (start N vs) H) : FnG P w K mg base CX0 (k + 1) f fd ps sp := by
  obtain ⟨oc, od, kV, doc, pm, an, cdv, ct, osl, rfl, lk, hcd⟩ := F.ex
  refine fn_ofG lk hcd S len fun A outer s H vs Q E hr gd hsp => ?_
  obtain ⟨t, h, q⟩ := hbody cdv A outer s H vs Q E hr gd hsp
  exact ⟨t, h.nox, q⟩
end
end Cor
set_option Elab.async false
set_option linter.all false
set_option maxRecDepth 100000
set_option maxHeartbeats 1000000
namespace Cor
open PySem PySem.Spec PyProof.Rows L2
/-- the def x keeps sp at level k -/
def Df (P : Program) (w : World) (K : PySem.W.Frag) (mg : Str → Option Value) (base : Heap) (x : Str) (k : Nat) (ps : List Str) (sp : Sp) : Prop :=
  ∃ f fd, FnOk P w K mg base CX0 k f fd ps sp ∧ mg x = some (.ref f) ∧ PySem.W.keepIn K (.ref f) = true ∧ Binds K fd ps []
/-- .. where no repr runs -/
def DfG (P : Program) (w : World) (K : PySem.W.Frag) (mg : Str → Option Value) (base : Heap) (x : Str) (k : Nat) (ps : List Str) (sp : Sp) : Prop :=
  ∃ f fd, FnG P w K mg base CX0 k f fd ps sp ∧ mg x = some (.ref f) ∧ PySem.W.keepIn K (.ref f) = true ∧ Binds K fd ps []
section
variable {X : Cx} {k : Nat} {ps : List Str} {sp : Sp} {E : XK} {x : Str} {p pos : Pos} {e : Expr} {es : List Expr} {t : TA}
theorem pe_df (D : Df X.prog X.w X.K X.mg X.base x k ps sp) (hr : Room k X.A) (hg : Gl X x) (ha : PA X (e :: es) t)
    (hdb : (x == ("__debug__" : Str)) = false := by decide) (he : starEach (e :: es) X.env = (false, eval e X.env) :: starEach es X.env := by rfl) (hpl : (backTo pos (starEach es X.env)).any (·.1) = false := by rfl) :
    PE X (.Call (.Name x p) (e :: es) [] pos) (tCall sp [] E t) := by
  obtain ⟨f, fd, F, m, kp, b⟩ := D
  exact pe_call F hr hg m kp b .nil pass0 ha hdb he hpl
theorem pe_dfG (D : DfG X.prog X.w X.K X.mg X.base x k ps sp) (hr : Room k X.A) (gd : X.A.guards = some []) (hg : Gl X x) (ha : PA X (e :: es) t)
    (hdb : (x == ("__debug__" : Str)) = false := by decide) (he : starEach (e :: es) X.env = (false, eval e X.env) :: starEach es X.env := by rfl) (hpl : (backTo pos (starEach es X.env)).any (·.1) = false := by rfl) :
    PE X (.Call (.Name x p) (e :: es) [] pos) (tCall sp [] E t) := by
  obtain ⟨f, fd, F, m, kp, b⟩ := D
  exact pe_callG F hr gd hg m kp b .nil pass0 ha hdb he hpl
end
/-- a statement with one fact behind it, whatever way it took -/
def tCut (t u : TS) : TS := fun D σ H => ∃ M : L2.St → Hp → Prop, t { D with nx := M } σ H ∧ ∀ σ' H', M σ' H' → u D σ' H'
theorem pss_cut {X : Cx} {st : Stmt} {rest : List Stmt} {t u : TS} (h1 : PS X st t) (h2 : PSs X rest u) : PSs X (st :: rest) (tCut t u) := by
  constructor
  intro pins s σ H D I ⟨M, hm, hu⟩
  refine wpAny_execs_cons (thn (h1.run pins s σ H { D with nx := M } I hm) fun fl s1 q => ?_)
  match fl, q with
  | .next, ⟨σ', H', J, q⟩ => exact h2.run pins s1 σ' H' D J (hu σ' H' q)
  | .ret v, q => exact q
  | .brk, q => exact q
  | .cont, q => exact q
/-- all that stood but at p stands -/
def SameBut (p : Addr) (H H' : Hp) : Prop := ∀ b o, b ≠ p → H b = some o → H' b = some o
theorem Same.but {H H' : Hp} {p : Addr} (s : Same H H') : SameBut p H H' := fun b o _ e => s b o e
theorem SameBut.trans {H H1 H2 : Hp} {p : Addr} (a : SameBut p H H1) (b : SameBut p H1 H2) : SameBut p H H2 := fun c o n e => b c o n (a c o n e)
theorem SameBut.refl {H : Hp} {p : Addr} : SameBut p H H := fun _ _ _ e => e
theorem SameBut.upd {H : Hp} {p : Addr} {o : HO} : SameBut p H (upd H p o) := fun b u n e => by rw [upd_ne n]; exact e
theorem SameBut.seq {K : PySem.W.Frag} {H H' : Hp} {p a : Addr} {xs : List V} (s : SameBut p H H') (n : H a = none ∨ a ≠ p) (h : SqL K H a xs) : SqL K H' a xs := by
  rcases h with (h | ⟨o, h⟩) | h
  · exact .inl (.inl (s _ _ (by rcases n with n | n; (· rw [n] at h; cases h); (· exact n)) h))
  · exact .inl (.inr ⟨o, s _ _ (by rcases n with n | n; (· rw [n] at h; cases h); (· exact n)) h⟩)
  · exact .inr h
theorem same_upd {H : Hp} {p : Addr} {o : HO} (n : H p = none) : Same H (upd H p o) := fun b u e => by rw [upd_ne (ne_of_none e n)]; exact e
mutual
theorem Dp.same {K : PySem.W.Frag} {H H' : Hp} (s : Same H H') : ∀ {v : V} {d : PyData}, Dp K H v d → Dp K H' v d
  | _, _, .non => .non
  | _, _, .bl b => .bl b
  | _, _, .int i => .int i
  | _, _, .str x => .str x
  | _, _, .lst h a => .lst (s.seq h) (DpAll.same s a)
  | _, _, .tup h a => .tup (by
      rcases h with (h | ⟨o, h⟩) | h
      · exact .inl (.inl (s _ _ h))
      · exact .inl (.inr ⟨o, s _ _ h⟩)
      · exact .inr h) (DpAll.same s a)
theorem DpAll.same {K : PySem.W.Frag} {H H' : Hp} (s : Same H H') : ∀ {vs : List V} {ds : List PyData}, DpAll K H vs ds → DpAll K H' vs ds
  | _, _, .nil => .nil
  | _, _, .cons h a => .cons (Dp.same s h) (DpAll.same s a)
end
/-- a source of draws stands at p -/
def Box (H : Hp) (p : Addr) : Prop := ∃ b s c : Int, H p = some (.lst [.int b, .int s, .int c]) ∧ 0 ≤ s ∧ s < 4294967296
def spBox (K : PySem.W.Frag) : Sp := fun vs H Q _ => ∃ (a : Addr) (ns : List Int) (k own : Int), vs = [.ref a, .int k, .int own] ∧ SqL K H a (ns.map V.int) ∧ ns.length ≤ 63 ∧ 0 ≤ k ∧ k < 1000 ∧ 0 ≤ own ∧ own < 1000 ∧
  ∀ H' p, Same H H' → H p = none → Box H' p → Q (.ref p) H'
def spTake : Sp := fun vs H Q _ => ∃ (p : Addr) (m : Int), vs = [.ref p, .int m] ∧ Box H p ∧ 0 < m ∧ m < 2 ^ 90 ∧
  ∀ (b s c r : Int), 0 ≤ s → s < 4294967296 → 0 ≤ r → r < m → Q (.int r) (upd H p (.lst [.int b, .int s, .int c]))
/-- the names of the built-ins that a text may use -/
structure Glo (mg : Str → Option Value) : Prop where
  len : mg "len" = none
  abs : mg "abs" = none
  int : mg "int" = none
  range : mg "range" = none
  max : mg "max" = none
  min : mg "min" = none
end Cor
set_option linter.all false
namespace Cor
/-- a plain value -/
inductive Lf where
  | i (n : Int)
  | b (v : Bool)
  deriving DecidableEq
/-- a tree of cases -/
inductive Tr where
  | lf (v : Lf)
  | nd (n : Int) (y o : Tr)
  deriving DecidableEq
abbrev Rho := Int → Bool
def Rho.put (r : Rho) (n : Int) (b : Bool) : Rho := fun m => if m = n then b else r m
def Tr.ev (r : Rho) : Tr → Lf
  | .lf v => v
  | .nd n y o => if r n = true then y.ev r else o.ev r
def Tr.nums : Tr → List Int
  | .lf _ => []
  | .nd n y o => n :: (y.nums ++ o.nums)
def Tr.dep : Tr → Nat
  | .lf _ => 0
  | .nd _ y o => max y.dep o.dep + 1
/-- the one form over the numbers S, ascending; g holds of its plain values -/
def Cn (g : Lf → Prop) : List Int → Tr → Prop
  | _, .lf v => g v
  | [], .nd _ _ _ => False
  | s :: S, .nd n y o => (n = s ∧ y ≠ o ∧ Cn g S y ∧ Cn g S o) ∨ Cn g S (.nd n y o)
abbrev Asc (S : List Int) : Prop := S.Pairwise (· < ·)
section
variable {g g' : Lf → Prop}
theorem Cn.lf {S : List Int} {v : Lf} (h : g v) : Cn g S (.lf v) := by cases S <;> exact h
theorem Cn.lf_of {S : List Int} {v : Lf} (h : Cn g S (.lf v)) : g v := by cases S <;> exact h
theorem Cn.skip {s : Int} {S : List Int} : ∀ {t : Tr}, Cn g S t → Cn g (s :: S) t
  | .lf _, h => .lf h.lf_of
  | .nd _ _ _, h => .inr h
theorem Cn.mono (hg : ∀ v, g v → g' v) : ∀ {S : List Int} {t : Tr}, Cn g S t → Cn g' S t
  | S, .lf v, h => .lf (hg v h.lf_of)
  | [], .nd _ _ _, h => h.elim
  | s :: S, .nd n y o, h => by
    rcases h with ⟨h1, h2, h3, h4⟩ | h
    · exact .inl ⟨h1, h2, Cn.mono hg h3, Cn.mono hg h4⟩
    · exact .inr (Cn.mono hg h)
theorem Cn.sub {S T : List Int} (st : S.Sublist T) : ∀ {t : Tr}, Cn g S t → Cn g T t := by
  induction st with
  | slnil => intro t h; exact h
  | cons a _ ih => intro t h; exact (ih h).skip
  | cons_cons a _ ih =>
    intro t h
    cases t with
    | lf v => exact .lf h.lf_of
    | nd n y o =>
      rcases h with ⟨h1, h2, h3, h4⟩ | h
      · exact .inl ⟨h1, h2, ih h3, ih h4⟩
      · exact .inr (ih h)
theorem Cn.mem : ∀ {S : List Int} {t : Tr}, Cn g S t → ∀ n ∈ t.nums, n ∈ S
  | _, .lf _, _, n, hn => by cases hn
  | [], .nd _ _ _, h, _, _ => h.elim
  | s :: S, .nd m y o, h, n, hn => by
    rcases h with ⟨h1, _, h3, h4⟩ | h
    · rcases List.mem_cons.mp hn with e | e
      · rw [e, h1]; exact List.mem_cons_self
      · rcases List.mem_append.mp e with e | e
        · exact List.mem_cons_of_mem _ (Cn.mem h3 n e)
        · exact List.mem_cons_of_mem _ (Cn.mem h4 n e)
    · exact List.mem_cons_of_mem _ (Cn.mem h n hn)
theorem Cn.dep_le : ∀ {S : List Int} {t : Tr}, Cn g S t → t.dep ≤ S.length
  | _, .lf _, _ => Nat.zero_le _
  | [], .nd _ _ _, h => h.elim
  | s :: S, .nd m y o, h => by
    rcases h with ⟨_, _, h3, h4⟩ | h
    · have a := Cn.dep_le h3
      have b := Cn.dep_le h4
      show max y.dep o.dep + 1 ≤ S.length + 1
      omega
    · exact Nat.le_succ_of_le (Cn.dep_le h)
theorem ev_out {r : Rho} {n : Int} {b : Bool} : ∀ {t : Tr}, n ∉ t.nums → t.ev (r.put n b) = t.ev r
  | .lf _, _ => rfl
  | .nd m y o, h => by
    have h1 : m ≠ n := fun e => h (by rw [e]; exact List.mem_cons_self)
    have h2 : n ∉ y.nums := fun e => h (List.mem_cons_of_mem _ (List.mem_append_left _ e))
    have h3 : n ∉ o.nums := fun e => h (List.mem_cons_of_mem _ (List.mem_append_right _ e))
    show (if (r.put n b) m = true then y.ev _ else o.ev _) = (if r m = true then y.ev r else o.ev r)
    rw [show (r.put n b) m = r m from if_neg h1, ev_out h2, ev_out h3]
theorem put_same {r : Rho} {n : Int} {b : Bool} : (r.put n b) n = b := if_pos rfl
theorem put_self {r : Rho} {n : Int} : r.put n (r n) = r := by
  funext m; unfold Rho.put; split
  · rename_i e; rw [e]
  · rfl
/-- two forms that have the same values are one -/
theorem Cn.one : ∀ {S : List Int} {t t' : Tr}, Asc S → Cn g S t → Cn g' S t' → (∀ r : Rho, t.ev r = t'.ev r) → t = t'
  | [], .lf v, .lf v', _, _, _, e => by rw [show v = v' from e fun _ => true]
  | [], .nd _ _ _, _, _, h, _, _ => h.elim
  | [], .lf _, .nd _ _ _, _, _, h, _ => h.elim
  | s :: S, t, t', hS, h, h', e => by
    obtain ⟨hs, hS'⟩ := List.pairwise_cons.mp hS
    have sS : s ∉ S := fun z => absurd (hs s z) (by omega)
    -- what stands over S does not ask s
    have out : ∀ {g : Lf → Prop} {u : Tr} {r : Rho} {b : Bool}, Cn g S u → u.ev (r.put s b) = u.ev r := fun hu => ev_out fun z => sS (hu.mem s z)
    have split : ∀ {g : Lf → Prop} {u : Tr}, Cn g (s :: S) u → Cn g S u ∨ ∃ y o, u = .nd s y o ∧ y ≠ o ∧ Cn g S y ∧ Cn g S o := fun {g u} hu => by
      cases u with
      | lf v => exact .inl (.lf hu.lf_of)
      | nd n y o =>
        rcases hu with ⟨rfl, h2, h3, h4⟩ | hu
        · exact .inr ⟨y, o, rfl, h2, h3, h4⟩
        · exact .inl hu
    have top : ∀ {y o : Tr} {r : Rho} {b : Bool}, (Tr.nd s y o).ev (r.put s b) = if b = true then y.ev (r.put s b) else o.ev (r.put s b) := fun {y o r b} => by
      show (if (r.put s b) s = true then _ else _) = _
      rw [put_same]
    rcases split h with h | ⟨y, o, rfl, ne, hy, ho⟩
    · rcases split h' with h' | ⟨y', o', rfl, ne', hy', ho'⟩
      · exact Cn.one hS' h h' e
      · have a : t = y' := Cn.one hS' h hy' fun r => by
          have z := e (r.put s true)
          rw [out h, top, if_pos rfl, out hy'] at z
          exact z
        have b : t = o' := Cn.one hS' h ho' fun r => by
          have z := e (r.put s false)
          rw [out h, top, if_neg Bool.false_ne_true, out ho'] at z
          exact z
        exact absurd (a.symm.trans b) ne'
    · rcases split h' with h' | ⟨y', o', rfl, ne', hy', ho'⟩
      · have a : y = t' := Cn.one hS' hy h' fun r => by
          have z := e (r.put s true)
          rw [top, if_pos rfl, out hy, out h'] at z
          exact z
        have b : o = t' := Cn.one hS' ho h' fun r => by
          have z := e (r.put s false)
          rw [top, if_neg Bool.false_ne_true, out ho, out h'] at z
          exact z
        exact absurd (a.trans b.symm) ne
      · have a : y = y' := Cn.one hS' hy hy' fun r => by
          have z := e (r.put s true)
          rw [top, top, if_pos rfl, if_pos rfl, out hy, out hy'] at z
          exact z
        have b : o = o' := Cn.one hS' ho ho' fun r => by
          have z := e (r.put s false)
          rw [top, top, if_neg Bool.false_ne_true, if_neg Bool.false_ne_true, out ho, out ho'] at z
          exact z
        rw [a, b]
end
def mkNd (n : Int) (y o : Tr) : Tr := if y = o then y else .nd n y o
theorem mkNd_ev {n : Int} {y o : Tr} {r : Rho} : (mkNd n y o).ev r = if r n = true then y.ev r else o.ev r := by
  unfold mkNd
  split
  · rename_i e
    rw [e]
    split <;> rfl
  · rfl
theorem mkNd_cn {g : Lf → Prop} {n : Int} {S : List Int} {y o : Tr} (hy : Cn g S y) (ho : Cn g S o) : Cn g (n :: S) (mkNd n y o) := by
  unfold mkNd
  split
  · exact hy.skip
  · rename_i ne
    exact .inl ⟨rfl, ne, hy, ho⟩
/-- the number at the top is no smaller -/
def Tr.from (n : Int) : Tr → Prop
  | .lf _ => True
  | .nd m _ _ => n ≤ m
/-- a case by a number that is at the top or above it -/
def caseTop (n : Int) (b : Bool) : Tr → Tr
  | .lf v => .lf v
  | .nd m y o => if m = n then (if b = true then y else o) else .nd m y o
theorem caseTop_nd (n : Int) (b : Bool) (m : Int) (y o : Tr) : caseTop n b (.nd m y o) = if m = n then (if b = true then y else o) else .nd m y o := rfl
def above (n : Int) (S : List Int) : List Int := S.filter fun m => decide (n < m)
theorem above_sub (n : Int) (S : List Int) : (above n S).Sublist S := List.filter_sublist
theorem above_asc {n : Int} {S : List Int} (h : Asc S) : Asc (above n S) := h.sublist (above_sub n S)
theorem above_cons {n s : Int} {S : List Int} (h : Asc (s :: S)) (hn : n ≤ s) : (n = s ∧ above n (s :: S) = S) ∨ (n < s ∧ above n (s :: S) = s :: S) := by
  obtain ⟨hs, hS⟩ := List.pairwise_cons.mp h
  have all : ∀ m, (∀ x ∈ S, m < x) → S.filter (fun x => decide (m < x)) = S := fun m hm => List.filter_eq_self.mpr fun x hx => decide_eq_true (hm x hx)
  unfold above
  rw [List.filter_cons]
  by_cases e : n = s
  · subst e
    rw [if_neg (by simp)]
    exact .inl ⟨rfl, all n hs⟩
  · have hlt : n < s := by omega
    rw [if_pos (decide_eq_true hlt), all n fun x hx => by have := hs x hx; omega]
    exact .inr ⟨hlt, rfl⟩
theorem Cn.above {g : Lf → Prop} {n : Int} : ∀ {S : List Int} {t : Tr}, Asc S → Cn g S t → (∀ m ∈ t.nums, n < m) → Cn g (above n S) t
  | S, .lf v, _, h, _ => .lf h.lf_of
  | [], .nd _ _ _, _, h, _ => h.elim
  | s :: S, .nd m y o, hS, h, hm => by
    obtain ⟨hs, hS'⟩ := List.pairwise_cons.mp hS
    have keep : n < s → Cor.above n (s :: S) = s :: S := fun hlt => by
      rcases above_cons hS (Int.le_of_lt hlt) with ⟨e, _⟩ | ⟨_, e⟩
      · omega
      · exact e
    rcases h with ⟨rfl, h2, h3, h4⟩ | h
    · rw [keep (hm m List.mem_cons_self)]
      exact .inl ⟨rfl, h2, h3, h4⟩
    · by_cases hlt : n < s
      · rw [keep hlt]
        exact .inr h
      · have z := Cn.above (n := n) hS' h hm
        unfold Cor.above at z ⊢
        rw [List.filter_cons, if_neg (by simpa using hlt)]
        exact z
/-- all numbers below the top of a form are greater -/
theorem Cn.below {g : Lf → Prop} : ∀ {S : List Int} {m : Int} {y o : Tr}, Asc S → Cn g S (.nd m y o) → m ∈ S ∧ y ≠ o ∧ Cn g (Cor.above m S) y ∧ Cn g (Cor.above m S) o
  | [], _, _, _, _, h => h.elim
  | s :: S, m, y, o, hS, h => by
    obtain ⟨hs, hS'⟩ := List.pairwise_cons.mp hS
    rcases h with ⟨rfl, h2, h3, h4⟩ | h
    · have e : Cor.above m (m :: S) = S := by
        rcases above_cons hS (Int.le_refl m) with ⟨_, e⟩ | ⟨l, _⟩
        · exact e
        · omega
      rw [e]
      exact ⟨List.mem_cons_self, h2, h3, h4⟩
    · obtain ⟨a, b, c, d⟩ := Cn.below hS' h
      have e : Cor.above m (s :: S) = Cor.above m S := by
        unfold Cor.above
        rw [List.filter_cons, if_neg (by have := hs m a; simp; omega)]
      rw [e]
      exact ⟨List.mem_cons_of_mem _ a, b, c, d⟩
theorem Cn.nums_above {g : Lf → Prop} {S : List Int} {n : Int} {t : Tr} (h : Cn g (Cor.above n S) t) : ∀ m ∈ t.nums, n < m := fun m hm => by
  have z := h.mem m hm
  exact of_decide_eq_true (List.mem_filter.mp z).2
theorem Cn.nums_from {g : Lf → Prop} {S : List Int} {n : Int} : ∀ {t : Tr}, Asc S → Cn g S t → t.from n → ∀ m ∈ t.nums, n ≤ m
  | .lf _, _, _, _, m, hm => by cases hm
  | .nd k y o, hS, h, hf, m, hm => by
    obtain ⟨_, _, hy, ho⟩ := Cn.below hS h
    have hf : n ≤ k := hf
    rcases List.mem_cons.mp hm with e | e
    · omega
    · rcases List.mem_append.mp e with e | e
      · have := hy.nums_above m e; omega
      · have := ho.nums_above m e; omega
theorem caseTop_cn {g : Lf → Prop} {S : List Int} {n : Int} {b : Bool} : ∀ {t : Tr}, Asc S → Cn g S t → t.from n → Cn g (Cor.above n S) (caseTop n b t)
  | .lf v, _, h, _ => .lf h.lf_of
  | .nd m y o, hS, h, hf => by
    rw [caseTop_nd]
    by_cases e : m = n
    · rw [if_pos e]
      subst e
      obtain ⟨_, _, hy, ho⟩ := Cn.below hS h
      cases b
      · exact ho
      · exact hy
    · rw [if_neg e]
      have hf : n ≤ m := hf
      refine Cn.above hS h fun k hk => ?_
      have := Cn.nums_from hS h (show (Tr.nd m y o).from m from Int.le_refl m) k hk
      omega
theorem caseTop_ev {g : Lf → Prop} {S : List Int} {n : Int} {b : Bool} {r : Rho} : ∀ {t : Tr}, Asc S → Cn g S t → t.from n → (caseTop n b t).ev r = t.ev (r.put n b)
  | .lf v, _, _, _ => rfl
  | .nd m y o, hS, h, hf => by
    obtain ⟨_, _, hy, ho⟩ := Cn.below hS h
    have hf : n ≤ m := hf
    have oy : n ∉ y.nums := fun z => by have := hy.nums_above n z; omega
    have oo : n ∉ o.nums := fun z => by have := ho.nums_above n z; omega
    rw [caseTop_nd]
    by_cases e : m = n
    · rw [if_pos e]
      subst e
      show _ = (if (r.put m b) m = true then y.ev _ else o.ev _)
      rw [put_same, ev_out oy, ev_out oo]
      cases b <;> rfl
    · rw [if_neg e]
      show _ = (if (r.put n b) m = true then y.ev _ else o.ev _)
      rw [ev_out oy, ev_out oo, show (r.put n b) m = r m from if_neg e]
      rfl
end Cor
set_option Elab.async false
set_option linter.all false
set_option maxRecDepth 100000
set_option maxHeartbeats 1000000
namespace Cor
open PySem PySem.Spec PyProof.Rows L2
def Lf.v : Lf → V
  | .i n => .int n
  | .b v => .bl v
/-- the tree t stands at v -/
inductive Tv (H : Hp) : V → Tr → Prop
  | lf (v : Lf) : Tv H v.v (.lf v)
  | nd {a : Addr} {n : Int} {y o : V} {ty to : Tr} : H a = some (.tup [.int n, y, o]) → Tv H y ty → Tv H o to → Tv H (.ref a) (.nd n ty to)
theorem Tv.lf_of {H : Hp} {v : V} {l : Lf} (h : Tv H v (.lf l)) : v = l.v := by cases h; rfl
theorem Tv.nd_of {H : Hp} {v : V} {n : Int} {ty to : Tr} (h : Tv H v (.nd n ty to)) : ∃ a y o, v = .ref a ∧ H a = some (.tup [.int n, y, o]) ∧ Tv H y ty ∧ Tv H o to := by
  cases h with
  | nd h1 h2 h3 => exact ⟨_, _, _, rfl, h1, h2, h3⟩
/-- all that stood stands, but lists -/
def Kp (H H' : Hp) : Prop := ∀ b o, (∀ xs, o ≠ .lst xs) → H b = some o → H' b = some o
theorem Kp.refl {H : Hp} : Kp H H := fun _ _ _ e => e
theorem Kp.trans {H H1 H2 : Hp} (a : Kp H H1) (b : Kp H1 H2) : Kp H H2 := fun c o n e => b c o n (a c o n e)
theorem _root_.L2.Same.kp {H H' : Hp} (s : Same H H') : Kp H H' := fun b o _ e => s b o e
theorem SameBut.kp {H H' : Hp} {p : Addr} {xs : List V} (s : SameBut p H H') (hp : H p = some (.lst xs)) : Kp H H' := fun b o n e => s b o (fun z => by
  rw [z, hp] at e
  exact n xs (Option.some.inj e).symm) e
theorem Tv.kp {H H' : Hp} (k : Kp H H') : ∀ {t : Tr} {v : V}, Tv H v t → Tv H' v t
  | .lf _, _, h => by rw [h.lf_of]; exact .lf _
  | .nd n ty to, _, h => by
    obtain ⟨a, y, o, rfl, h1, h2, h3⟩ := h.nd_of
    exact .nd (k _ _ (fun _ z => by cases z) h1) (Tv.kp k h2) (Tv.kp k h3)
theorem Tv.same {H H' : Hp} (s : Same H H') {t : Tr} {v : V} (h : Tv H v t) : Tv H' v t := h.kp s.kp
def Lf.d : Lf → PyData
  | .i n => .int n
  | .b v => .bool v
def Tr.d : Tr → PyData
  | .lf v => v.d
  | .nd n y o => .tuple [.int n, y.d, o.d]
theorem Tv.dp {K : PySem.W.Frag} {H : Hp} : ∀ {t : Tr} {v : V}, Tv H v t → Dp K H v t.d
  | .lf (.i n), _, h => by rw [h.lf_of]; exact .int n
  | .lf (.b n), _, h => by rw [h.lf_of]; exact .bl n
  | .nd n ty to, _, h => by
    obtain ⟨a, y, o, rfl, h1, h2, h3⟩ := h.nd_of
    exact .tup (SqT.of h1) (.cons (.int n) (.cons (Tv.dp h2) (.cons (Tv.dp h3) .nil)))
theorem Tr.d_depth : ∀ t : Tr, t.d.depth = t.dep
  | .lf (.i _) => rfl
  | .lf (.b _) => rfl
  | .nd n y o => by
    show max 0 (max y.d.depth (max o.d.depth 0)) + 1 = max y.dep o.dep + 1
    rw [Tr.d_depth y, Tr.d_depth o]
    omega
theorem Tr.d_lay : ∀ t : Tr, t.d.canLay0 = true
  | .lf (.i _) => rfl
  | .lf (.b _) => rfl
  | .nd n y o => by
    show (PyData.canLay0 (.int n) && (y.d.canLay0 && (o.d.canLay0 && true))) = true
    rw [Tr.d_lay y, Tr.d_lay o]
    rfl
theorem Tr.shaped {t : Tr} (h : t.dep ≤ 64) : SeqAt.shaped t.d = true := by
  unfold SeqAt.shaped
  rw [t.d_lay, t.d_depth, decide_eq_true h]
  rfl
/-- its plain values are of the kind k (true: truths), below 2 ^ B -/
def Lg (k : Bool) (B : Nat) : Lf → Prop
  | .i n => k = false ∧ n.natAbs < 2 ^ B
  | .b _ => k = true
def Lk (k : Bool) : Lf → Prop
  | .i n => k = false
  | .b _ => k = true
theorem Lg.k {k : Bool} {B : Nat} : ∀ v, Lg k B v → Lk k v
  | .i _, h => h.1
  | .b _, h => h
theorem Lg.le {k : Bool} {B B' : Nat} (hb : B ≤ B') : ∀ v, Lg k B v → Lg k B' v
  | .i _, h => ⟨h.1, Nat.lt_of_lt_of_le h.2 (Nat.pow_le_pow_right (by decide) hb)⟩
  | .b _, h => h
def Tr.hom (k : Bool) : Tr → Prop
  | .lf v => Lk k v
  | .nd _ y o => y.hom k ∧ o.hom k
theorem Cn.hom {g : Lf → Prop} {k : Bool} (hg : ∀ v, g v → Lk k v) : ∀ {S : List Int} {t : Tr}, Cn g S t → t.hom k
  | _, .lf v, h => hg v h.lf_of
  | [], .nd _ _ _, h => h.elim
  | s :: S, .nd n y o, h => by
    rcases h with ⟨_, _, h3, h4⟩ | h
    · exact ⟨Cn.hom hg h3, Cn.hom hg h4⟩
    · exact Cn.hom hg h
theorem eqv_tr {k : Bool} : ∀ {t t' : Tr}, t.hom k → t'.hom k → PyData.eqv t.d t'.d = decide (t = t')
  | .lf (.i n), .lf (.i m), _, _ => by
    show (n == m) = _
    rw [Bool.eq_iff_iff]
    simp
  | .lf (.b n), .lf (.b m), _, _ => by
    show (n == m) = _
    rw [Bool.eq_iff_iff]
    simp
  | .lf (.i n), .lf (.b m), h, h' => by
    have a : k = false := h
    have b : k = true := h'
    rw [a] at b
    cases b
  | .lf (.b n), .lf (.i m), h, h' => by
    have a : k = true := h
    have b : k = false := h'
    rw [a] at b
    cases b
  | .lf (.i n), .nd _ _ _, _, _ => (decide_eq_false fun z => by cases z).symm
  | .lf (.b n), .nd _ _ _, _, _ => (decide_eq_false fun z => by cases z).symm
  | .nd _ _ _, .lf (.i n), _, _ => (decide_eq_false fun z => by cases z).symm
  | .nd _ _ _, .lf (.b n), _, _ => (decide_eq_false fun z => by cases z).symm
  | .nd n y o, .nd m y' o', h, h' => by
    show ((n == m) && (PyData.eqv y.d y'.d && (PyData.eqv o.d o'.d && true))) = _
    rw [eqv_tr h.1 h'.1, eqv_tr h.2 h'.2, Bool.eq_iff_iff]
    simp
end Cor
set_option linter.all false
namespace Cor
theorem cons_above {n : Int} : ∀ {S : List Int}, Asc S → n ∈ S → (n :: above n S).Sublist S
  | [], _, h => by cases h
  | s :: S, hS, h => by
    obtain ⟨hs, hS'⟩ := List.pairwise_cons.mp hS
    rcases List.mem_cons.mp h with e | e
    · subst e
      rcases above_cons hS (Int.le_refl n) with ⟨_, z⟩ | ⟨z, _⟩
      · rw [z]; exact List.Sublist.refl _
      · omega
    · have hlt := hs n e
      have z : above n (s :: S) = above n S := by
        unfold above
        rw [List.filter_cons, if_neg (by simp; omega)]
      rw [z]
      exact (cons_above hS' e).cons s
theorem above_len {n : Int} {S : List Int} (hS : Asc S) (h : n ∈ S) : (above n S).length < S.length := by
  have := (cons_above hS h).length_le
  simp only [List.length_cons] at this
  omega
theorem mem_above {n m : Int} {S : List Int} : m ∈ above n S ↔ m ∈ S ∧ n < m := by
  unfold above
  rw [List.mem_filter]
  simp
theorem mkNd_cn' {g : Lf → Prop} {n : Int} {S : List Int} {y o : Tr} (hS : Asc S) (h : n ∈ S) (hy : Cn g (above n S) y) (ho : Cn g (above n S) o) : Cn g S (mkNd n y o) := (mkNd_cn hy ho).sub (cons_above hS h)
theorem put_true {r : Rho} {n : Int} {b : Bool} (h : r n = b) : r.put n b = r := by rw [← h]; exact put_self
/-- the operations -/
inductive Op where
  | add | sub | mul | lt | le | and | or | eq
def Op.kin : Op → Bool
  | .and | .or => true
  | _ => false
def Op.kout : Op → Bool
  | .add | .sub | .mul => false
  | _ => true
def Op.ap : Op → Lf → Lf → Lf
  | .add, .i a, .i b => .i (a + b)
  | .sub, .i a, .i b => .i (a - b)
  | .mul, .i a, .i b => .i (a * b)
  | .lt, .i a, .i b => .b (decide (a < b))
  | .le, .i a, .i b => .b (decide (a ≤ b))
  | .and, .b a, .b b => .b (a && b)
  | .or, .b a, .b b => .b (a || b)
  | .eq, .i a, .i b => .b (decide (a = b))
  | _, a, _ => a
def Op.sign : Op → PySem.Str
  | .add => "+" | .sub => "-" | .mul => "*" | .lt => "<" | .le => "<=" | .and => "and" | .or => "or" | .eq => "=="
theorem pow_add_le {B B' : Nat} : 2 ^ B + 2 ^ B' ≤ 2 ^ (B + B' + 1) := by
  have h1 : 2 ^ B ≤ 2 ^ (B + B') := Nat.pow_le_pow_right (by decide) (by omega)
  have h2 : 2 ^ B' ≤ 2 ^ (B + B') := Nat.pow_le_pow_right (by decide) (by omega)
  rw [Nat.pow_succ]
  omega
theorem Lg.int {B : Nat} : ∀ {a : Lf}, Lg false B a → ∃ n, a = .i n ∧ n.natAbs < 2 ^ B
  | .i n, h => ⟨n, rfl, h.2⟩
  | .b _, h => by cases h
theorem Lg.truth {B : Nat} : ∀ {a : Lf}, Lg true B a → ∃ v, a = .b v
  | .b v, _ => ⟨v, rfl⟩
  | .i _, h => by cases h.1
theorem Op.bound {o : Op} {a b : Lf} {B B' : Nat} (ha : Lg o.kin B a) (hb : Lg o.kin B' b) : Lg o.kout (B + B' + 1) (o.ap a b) := by
  have p1 := @pow_add_le B B'
  cases o with
  | add =>
    obtain ⟨x, rfl, h1⟩ := Lg.int ha
    obtain ⟨y, rfl, h2⟩ := Lg.int hb
    refine ⟨rfl, ?_⟩
    show (x + y).natAbs < _
    omega
  | sub =>
    obtain ⟨x, rfl, h1⟩ := Lg.int ha
    obtain ⟨y, rfl, h2⟩ := Lg.int hb
    refine ⟨rfl, ?_⟩
    show (x - y).natAbs < _
    omega
  | mul =>
    obtain ⟨x, rfl, h1⟩ := Lg.int ha
    obtain ⟨y, rfl, h2⟩ := Lg.int hb
    refine ⟨rfl, ?_⟩
    show (x * y).natAbs < _
    rw [Int.natAbs_mul]
    have h3 : x.natAbs * y.natAbs ≤ 2 ^ B * 2 ^ B' := Nat.mul_le_mul (Nat.le_of_lt h1) (Nat.le_of_lt h2)
    rw [← Nat.pow_add] at h3
    exact Nat.lt_of_le_of_lt h3 (Nat.pow_lt_pow_right (by decide) (by omega))
  | lt =>
    obtain ⟨x, rfl, h1⟩ := Lg.int ha
    obtain ⟨y, rfl, h2⟩ := Lg.int hb
    rfl
  | le =>
    obtain ⟨x, rfl, h1⟩ := Lg.int ha
    obtain ⟨y, rfl, h2⟩ := Lg.int hb
    rfl
  | eq =>
    obtain ⟨x, rfl, h1⟩ := Lg.int ha
    obtain ⟨y, rfl, h2⟩ := Lg.int hb
    rfl
  | and =>
    obtain ⟨x, rfl⟩ := Lg.truth ha
    obtain ⟨y, rfl⟩ := Lg.truth hb
    rfl
  | or =>
    obtain ⟨x, rfl⟩ := Lg.truth ha
    obtain ⟨y, rfl⟩ := Lg.truth hb
    rfl
end Cor
set_option Elab.async false
set_option linter.all false
set_option maxRecDepth 100000
set_option maxHeartbeats 1000000
namespace Cor
open PySem PySem.Spec PyProof.Rows L2
/-- repr(x), x a list or a tuple of data -/
def rRepr (K : PySem.W.Frag) : List V → Hp → VK → Prop := fun xs H Q => ∃ (a : Addr) (d : PyData), xs = [.ref a] ∧ Dp K H (.ref a) d ∧ d.showable = true ∧ d.hasDict = false ∧ d.shown.length ≤ sizeLine ∧ d.depth ≤ 60 ∧ Q (.str d.shown) H
theorem call_reprL {X : Cx} (gd : X.A.guards = some []) (hu : X.A.units + 64 < cLine) : CallR X (.builtin "repr") (rRepr X.K) := by
  intro pins s σ H xs us Q I r h
  obtain ⟨a, d, rfl, hd, hs, hn, hl, hdep, q⟩ := h
  cases r with
  | @cons _ u _ _ rx rr =>
    cases rr
    obtain rfl : u = Value.ref a := rx
    obtain ⟨as, rd⟩ := Dp.reads I d _ _ hd (show RelV (.ref a) (Value.ref a) from rfl)
    exact repr_of_reads' rd hs (fun z => by rw [hn] at z; cases z) gd (by omega) (fun _ _ z => z) (fun h' u tk k => ⟨.str d.shown, H, I.kept (t' := tk) k, ⟨_, rfl⟩, q⟩) hl
end Cor
set_option Elab.async false
set_option linter.all false
set_option maxRecDepth 100000
set_option maxHeartbeats 1000000
namespace Cor
open PySem PySem.Spec PyProof.Rows L2
/-- a def by its address, that keeps sp at level k -/
def MdR (P : Program) (w : World) (K : PySem.W.Frag) (mg : Str → Option Value) (base : Heap) (k : Nat) (g : Addr) (sp : Sp) : Prop := FnR P w K mg base CX0 k g sp ∧ PySem.W.isFn K (.ref g) = true ∧ PySem.W.keepIn K (.ref g) = true
section
variable {X : Cx} {pins : List (Addr × Obj)} {σ : L2.St} {H : Hp} {s : Shared} {a C dx g : Addr} {fs : List (Str × V)} {k : Nat} {sp : Sp}
theorem ins_at (I : Inv X pins σ H s) (h : H a = some (.ins C dx fs)) : ∃ ox od, PySem.W.InstAt s.heap a ox C od := by
  obtain ⟨mA, O, _⟩ := ins_get I.hok h
  obtain ⟨od, J, _⟩ := O.look
  exact ⟨_, _, J⟩
/-- x op y, two instances of the class at C -/
def rOw2 (C : Addr) (sp : Sp) : R2 := fun x y H Q => ∃ a dx fs b dy gs, x = .ref a ∧ y = .ref b ∧ H a = some (.ins C dx fs) ∧ H b = some (.ins C dy gs) ∧ sp [x, y] H Q E0
/-- x op n, an instance and an int (or a truth): T the type's name -/
def rOwT (C : Addr) (T : String) (sp : Sp) : R2 := fun x y H Q => ∃ a dx fs, x = .ref a ∧ H a = some (.ins C dx fs) ∧ ((T = "int" ∧ ∃ n, y = .int n) ∨ (T = "bool" ∧ ∃ n, y = .bl n)) ∧ sp [x, y] H Q E0
theorem op_owT {op : Operator} {T : String} {fo ro rc : Option Value} (sf : PySem.W.selfFirst X.K C = true) (hs : PySem.W.findIn X.K (.ref C) (PySem.dunder op.info.2) = some (some (.ref g)))
    (hrc : PySem.W.findIn X.K (.ref C) (PySem.dunderR op.info.2) = some rc) (hp : rc = none ∨ ∃ g : Addr, rc = some (.ref g)) (h1 : PySem.W.findIn X.K (.type T) (PySem.dunder op.info.2) = some fo) (h2 : PySem.W.findIn X.K (.type T) (PySem.dunderR op.info.2) = some ro)
    (hsub : PySem.W.subIn X.K (.type T) (.ref C) = some false) (M : MdR X.prog X.w X.K X.mg X.base k g sp) (hr : Room k X.A) : OpR X (binaryOp op) (rOwT C T sp) := by
  intro pins s σ H x y v u Q I rx ry h
  obtain ⟨a, dx, fs, rfl, ha, hy, q⟩ := h
  cases (show v = Value.ref a from rx)
  obtain ⟨ox, od, J⟩ := ins_at I ha
  obtain ⟨m, hF⟩ := I.fr
  have ty : typeOf u = pure (.type T) := by
    rcases hy with ⟨rfl, n, rfl⟩ | ⟨rfl, n, rfl⟩
    · obtain ⟨t, rfl⟩ := (show ∃ t, u = Value.int n t from ry); rfl
    · cases (show u = Value.bool n from ry); rfl
  refine PySem.W.ksp_binT hF I.ok.mod.kin J ty sf hs M.2.1 hrc hp h1 h2 hsub ?_
  refine wpAny_mono (wpAny_call (run_fnR (us := [.ref a, u]) (vs := [.ref a, y]) M.1 hr pass0 I (.cons rfl (.cons ry .nil)) q)) (fun w s' z => ?_) fun _ _ x => x
  obtain ⟨z', H', I', rz, qz⟩ := z
  exact SlX.cmpback rz ⟨z', H', I', rz, qz⟩
/-- x == y -/
theorem op_owEq (hs : PySem.W.findIn X.K (.ref C) "__eq__" = some (some (.ref g))) (M : MdR X.prog X.w X.K X.mg X.base k g sp) (hr : Room k X.A) : OpR X (compareOp .Eq) (rOw2 C sp) := by
  intro pins s σ H x y v u Q I rx ry h
  obtain ⟨a, dx, fs, b, dy, gs, rfl, rfl, ha, hb, q⟩ := h
  cases (show v = Value.ref a from rx)
  cases (show u = Value.ref b from ry)
  obtain ⟨ox, od, J⟩ := ins_at I ha
  obtain ⟨ox', od', J'⟩ := ins_at I hb
  obtain ⟨m, hF⟩ := I.fr
  refine PySem.W.cmp_K (op := .Eq) (tb := .ref C) hr.units0 hF I.ok.mod.kin J J'.type (by simp [PySem.W.notFirst]) hs M.2.1 ?_
  refine wpAny_mono (wpAny_call (run_fnR (us := [.ref a, .ref b]) (vs := [.ref a, .ref b]) M.1 hr pass0 I (.cons rfl (.cons rfl .nil)) q)) (fun w s' z => ?_) fun _ _ x => x
  obtain ⟨z', H', I', rz, qz⟩ := z
  exact SlX.cmpback rz ⟨z', H', I', rz, qz⟩
end
section
variable {prog : Program} {w : World} {A : Around} {E : Value → Shared → Prop} {s : Shared} {K : PySem.W.Frag} {x y C f : Addr} {ox : Obj} {od : Option Obj}
theorem ifBound_B {M : Model} {name : Str} {id B : String} {args : List Value} {Q : Option Value → Shared → Prop} (S : PySem.Slot B name id) (X : K.In s.heap) (I : PySem.W.InstAt s.heap x ox C od) (hf : PySem.W.findIn K (.ref C) name = some (some (.builtin id)))
    (h : wpAny M A (call (.builtin id) (.ref x :: args)) (fun v => Q (some v)) E s) : wpAny M A (callSpecialIfBound? (.ref x) name args) Q E s := by
  simp only [callSpecialIfBound?, bindSpecialIfBound?]
  unfold specialOf
  refine wpAny_holding (wpAny_bind (wpAny_bind (wpAny_bind (I.type.here ((PySem.W.looks_findIn X hf).here ?_)))))
  simp only [S.bind]
  refine wpAny_bind (wpAny_askSetting (wpAny_ite ?_))
  have fin : wpAny M A (call (.builtin id) ([.ref x] ++ args) >>= fun v => pure (some v)) Q E s := wpAny_bind (wpAny_mono h (fun v s' h' => wpAny_pure h') fun _ _ h' => h')
  split
  · exact wpAny_bind (wpAny_pure (wpAny_pure (by exact fin)))
  · exact wpAny_tryCatch (wpAny_bind (wpAny_pure (wpAny_pure (by exact fin))))
theorem ne_K {Q : Value → Shared → Prop} (X : K.In s.heap) (I : PySem.W.InstAt s.heap x ox C od) (hb : PySem.W.Looks (model prog w) s.heap (typeOf (.ref y)) (.ref C)) (hn : PySem.W.findIn K (.ref C) "__ne__" = some (some (.builtin "object.__ne__")))
    (ho : PySem.W.subIn K (.ref C) (.type "object") = some true) (hs : PySem.W.findIn K (.ref C) "__eq__" = some (some (.ref f))) (hf : PySem.W.isFn K (.ref f) = true) (hu : A.units + 1 < cLine)
    (h : wpAny (model prog w) A.in1 (call (.ref f) [.ref x, .ref y]) (fun v s' => ∃ b, v = .bool b ∧ Q (.bool (!b)) s') E s) : wpAny (model prog w) A (richCompare .NotEq (.ref x) (.ref y)) Q E s := by
  unfold richCompare
  simp only [oneThing_ref]
  refine wpAny_holding (wpAny_bind (wpAny_cRoomFor (Nat.lt_of_succ_lt hu) ?_))
  refine wpAny_bind (I.type.here (wpAny_bind (hb.here ?_)))
  rw [show (Value.ref C != Value.ref C) = false from by simp]
  simp only [Bool.false_eq_true, if_false]
  refine wpAny_bind (wpAny_pure ?_)
  simp only [Bool.false_eq_true, if_false]
  rw [cmpInfo_NotEq]
  dsimp only
  refine wpAny_bind (m := tryCompare (.ref x) "__ne__" (.ref y)) ?_
  unfold tryCompare
  refine wpAny_bind (ifBound_B F.cmp_object.ne X I hn ?_)
  have hi : PySem.W.Looks (model prog w) s.heap (isInstance (.ref x) (.type "object")) true := I.type.andThen (PySem.W.looks_subIn X ho)
  refine wpAny_call (codeAny_call_builtin F.cmp_object.ne.plain F.cmpEntry_ne (PySem.W.check_slot F.cmpKind_ne F.cmpSplit_ne hi (F.cmpArgs_ne _ _) ?_))
  obtain ⟨hh, g, d, t, os⟩ := s
  unfold Builtin.«object.__ne__»
  refine wpAny_bind (m := slotArgs "__ne__" 1 _) (wpAny_pure ?_)
  refine wpAny_bind (wpAny_cRoomFor hu ?_)
  refine wpAny_bind (m := callSpecialIfBound? (.ref x) (Str.ofString "__eq__") [.ref y]) (PySem.W.ifBound_K X I hs hf (wpAny_mono h (fun r s' hr => ?_) fun _ _ e => e))
  obtain ⟨b, rfl, hq⟩ := hr
  refine wpAny_bind (m := truthy (.bool _)) (wpAny_truthy_bool ?_)
  exact wpAny_pure (wpAny_pure (wpAny_pure hq))
end
/-- x != y, by the class's == -/
def rOwNe (C : Addr) (sp : Sp) : R2 := fun x y H Q => ∃ a dx fs b dy gs, x = .ref a ∧ y = .ref b ∧ H a = some (.ins C dx fs) ∧ H b = some (.ins C dy gs) ∧ sp [x, y] H (fun z H' => ∃ c, z = .bl c ∧ Q (.bl (!c)) H') E0
section
variable {X : Cx} {C g : Addr} {k : Nat} {sp : Sp}
theorem op_owNe (hs : PySem.W.findIn X.K (.ref C) "__eq__" = some (some (.ref g))) (hn : PySem.W.findIn X.K (.ref C) "__ne__" = some (some (.builtin "object.__ne__"))) (ho : PySem.W.subIn X.K (.ref C) (.type "object") = some true)
    (M : MdR X.prog X.w X.K X.mg X.base k g sp) (hr : Room (k + 1) X.A) : OpR X (compareOp .NotEq) (rOwNe C sp) := by
  intro pins s σ H x y v u Q I rx ry h
  obtain ⟨a, dx, fs, b, dy, gs, rfl, rfl, ha, hb, q⟩ := h
  cases (show v = Value.ref a from rx)
  cases (show u = Value.ref b from ry)
  obtain ⟨ox, od, J⟩ := ins_at I ha
  obtain ⟨ox', od', J'⟩ := ins_at I hb
  show wpAny _ _ (richCompare .NotEq (.ref a) (.ref b)) _ _ _
  refine ne_K I.kIn J J'.type hn ho hs M.2.1 (hu_of hr) ?_
  refine wpAny_mono (wpAny_call (SlX.run_at (us := [.ref a, .ref b]) (ws := [.ref a, .ref b]) M.1 hr.in1 I.env0.in1 pass0 I (.cons rfl (.cons rfl .nil)) q)) (fun w s' z => ?_) fun _ _ x => x
  obtain ⟨z', H', I', rz, c, rfl, qz⟩ := z
  cases rz
  exact ⟨c, rfl, .bl (!c), H', I', rfl, qz⟩
end
end Cor
set_option Elab.async false
set_option linter.all false
set_option maxRecDepth 100000
set_option maxHeartbeats 1000000
namespace Cor
open PySem PySem.Spec PyProof.Rows L2
/-- the class at S, named x, has the static method m, the def at f -/
structure Stm (K : PySem.W.Frag) (mg : Str → Option Value) (x : Str) (S : Addr) (m : Str) (f : Addr) : Prop where
  nm : mg x = some (.ref S)
  rd : ∃ mc, ClX.CRead K S mc ∧ ∃ p rest, PySem.W.findCls K (.ref S) mc m = some (.get (.builtin "staticmethod.__get__") (.ref p) .none (.ref S)) ∧ PySem.W.recIn K p "staticmethod" = some (.ref f :: rest)
section
variable {X : Cx} {e : Expr} {es : List Expr} {ta : TA} {m x : Str} {p1 p2 pos : Pos} {S f : Addr} {k : Nat} {sp : Sp}
/-- S.m(e, ..), m a static method -/
theorem pe_sm {pl : Sem Bool} (T : Stm X.K X.mg x S m f) (M : MdR X.prog X.w X.K X.mg X.base k f sp) (hr : Room k X.A) (hg : Gl X x) (ha : PA X (e :: es) ta) (hdb : (x == ("__debug__" : Str)) = false := by decide)
    (hc : eval (.Call (.Attribute (.Name x p1) m p2) (e :: es) [] pos) X.env = (do
      let ov ← eval (.Name x p1) X.env
      standAt p2.atName
      let (f, first) ← holding [ov] (getMethod ov m pl)
      callWith pos f first (backTo pos (starEach (e :: es) X.env)) (backToKw pos (keywordEach [] X.env))) := by rfl)
    (he : starEach (e :: es) X.env = (false, eval e X.env) :: starEach es X.env := by rfl) (hpl : (backTo pos (starEach es X.env)).any (·.1) = false := by rfl) :
    PE X (.Call (.Attribute (.Name x p1) m p2) (e :: es) [] pos) (fun σ H Q => ta σ H fun vs H1 => sp vs H1 Q E0) := by
  refine ⟨fun pins s σ H Q I h => ?_⟩
  obtain ⟨mc, rd, p, rest, fc, rc⟩ := T.rd
  refine PySem.W.methodCall_KW (ld_glob I hg T.nm ?_ hdb) hc
  refine PySem.W.method_cls I.kIn rd.ga (PySem.W.cls_bind I.kIn rd.rd fc (wpAny_call (PySem.W.sm_get (s := { s with toks := s.toks + 1 }) I.kIn rc (PySem.W.handed_on rfl ?_))))
  refine PySem.W.callWith_K (h₀ := X.base) I.ok.mod.kin M.2.2 (thn (ha.run pos pins _ σ H _ (I.tok _) h) fun us s1 ⟨vs, H1, I1, r, q⟩ => ⟨I1.kIn, ?_⟩) he hpl
  exact wpAny_call (run_fnR M.1 hr pass0 I1 r q)
end
section
variable {prog : Program} {w : World} {A : Around} {E : Value → Shared → Prop} {s : Shared} {K : PySem.W.Frag} {x C f : Addr} {ox : Obj} {od : Option Obj}
open Builtin Builtin.Str in
theorem str_own {Q : Value → Shared → Prop} (hu : A.in1.in1.units < cLine) (X : K.In s.heap) (I : PySem.W.InstAt s.heap x ox C od) (hs : PySem.W.findIn K (.ref C) "__str__" = some (some (.ref f))) (hf : PySem.W.isFn K (.ref f) = true)
    (h : wpAny (model prog w) A.in1.in1 (call (.ref f) [.ref x]) (fun r s' => ∃ y u, r = .str y u ∧ Q r s') E s) : wpAny (model prog w) A (call (.type "str") [.ref x]) Q E s := by
  refine PySem.callType_codes (T := "str") (Bi := Builtin.«object.__init__») (Q₁ := fun r s₁ => ∃ y u, r = .str y u ∧ Q r s₁) PySem.F.called_str (PySem.F.typeCall_str_1 _) PySem.F.entry_object_init ?_ ?_
  · refine codeAny_of_tree ?_
    show wpAny _ A.in1.in1 (do checkBuiltinCall "str.__new__" ⟨[.type "str", .ref x], []⟩; again (.builtin "str.__new__" ⟨[.type "str", .ref x], []⟩)) _ _ s
    refine wpAny_bind (wpAny_of_eq (PySem.F.newCall_str_1 _) (wpAny_pure ⟨plainId_quiet (by decide +kernel) _, codeAny_builtin PySem.F.entry_str_new ?_⟩))
    rw [Around.under_plainId (by decide +kernel) _]
    rw [str_new_tree]
    refine wpAny_bind (wpAny_pure ?_)
    refine wpAny_bind (wpAny_of_eq isSubtype_str_str ?_)
    have key : wpAny (model prog w) A.in1.in1 (PySem.Builtin.Str.strOf (.ref x)) (fun r s₁ => ∃ y u, r = .str y u ∧ Q r s₁) E s := by
      unfold PySem.Builtin.Str.strOf
      rw [show isExactStr (.ref x) = false from rfl]
      refine wpAny_bind (m := cRoomFor _ _) (wpAny_cRoomFor hu ?_)
      refine wpAny_bind (m := callSpecial? (.ref x) (Str.ofString "__str__")) (PySem.W.special_fn X I hs (beq_iff_eq.mp hf) (wpAny_mono h (fun r s' z => ?_) fun _ _ y => y))
      obtain ⟨y, u, rfl, z⟩ := z
      exact wpAny_pure ⟨_, _, rfl, z⟩
    exact wpAny_bind (wpAny_mono key (fun r s₁ hr => wpAny_pure hr) fun _ _ y => y)
  · rintro obj s₁ ⟨y, u, rfl, hq⟩
    exact ⟨typeIs_str _ _ _, PySem.F.args_object_init_2 _ _, object_init_meets PySem.F.called_str.init.lookup PySem.F.called_str.made (by decide) prog w A.in1 _ s₁ ⟨typeIs_str _ _ _, rfl, hq⟩⟩
end
/-- str(x), x an instance of the class at C whose __str__ is at g -/
def rStrO (C : Addr) (sp : Sp) : List V → Hp → VK → Prop := fun xs H Q => ∃ a dx fs, xs = [.ref a] ∧ H a = some (.ins C dx fs) ∧ sp [.ref a] H (fun z H' => ∃ y, z = .str y ∧ Q z H') E0
theorem call_strO {X : Cx} {C g : Addr} {k : Nat} {sp : Sp} (hs : PySem.W.findIn X.K (.ref C) "__str__" = some (some (.ref g))) (M : MdR X.prog X.w X.K X.mg X.base k g sp) (hr : Room (k + 2) X.A) : CallR X (.type "str") (rStrO C sp) := by
  intro pins s σ H xs us Q I r h
  obtain ⟨a, dx, fs, rfl, ha, q⟩ := h
  rw [Vals.ref1 r]
  obtain ⟨ox, od, J⟩ := ins_at I ha
  have hr2 : Room k X.A.in1.in1 := (show Room (k + 1) X.A.in1 from Room.in1 hr).in1
  refine str_own hr2.units0 I.kIn J hs M.2.1 (wpAny_mono (wpAny_call (SlX.run_at (us := [.ref a]) (ws := [.ref a]) M.1 hr2 I.env0.in1.in1 pass0 I (.cons rfl .nil) q)) (fun w s' z => ?_) fun _ _ x => x)
  obtain ⟨z', H', I', rz, y, rfl, qz⟩ := z
  obtain ⟨t, rfl⟩ := rz
  exact ⟨y, t, rfl, .str y, H', I', ⟨t, rfl⟩, qz⟩
end Cor
set_option Elab.async false
set_option linter.all false
set_option maxRecDepth 100000
set_option maxHeartbeats 2000000
namespace Cor
open PySem PySem.Spec PyProof.Rows L2
/-- repr(x), x data -/
def rReprD (K : PySem.W.Frag) : List V → Hp → VK → Prop := fun xs H Q => ∃ (v : V) (d : PyData), xs = [v] ∧ Dp K H v d ∧ d.showable = true ∧ d.hasDict = false ∧ d.shown.length ≤ sizeLine ∧ d.depth ≤ 60 ∧ Q (.str d.shown) H
theorem call_reprD {X : Cx} (gd : X.A.guards = some []) (hu : X.A.units + 64 < cLine) : CallR X (.builtin "repr") (rReprD X.K) := by
  intro pins s σ H xs us Q I r h
  obtain ⟨v, d, rfl, hd, hs, hn, hl, hdep, q⟩ := h
  cases r with
  | @cons _ u _ _ rx rr =>
    cases rr
    cases hd with
    | non =>
      cases rx
      exact PySem.P.repr_of_none ⟨.str "None", H, I.tok _, ⟨_, rfl⟩, q⟩
    | bl b =>
      cases rx
      exact PySem.P.repr_of_bool ⟨.str _, H, I.tok _, ⟨_, rfl⟩, q⟩
    | int i =>
      obtain ⟨t, rfl⟩ := rx
      exact PySem.P.repr_of_int (of_decide_eq_true hs) ⟨.str _, H, I.tok _, ⟨_, rfl⟩, q⟩
    | str x =>
      obtain ⟨t, rfl⟩ := rx
      exact PySem.P.repr_of_str ⟨.str _, H, I.tok _, ⟨_, rfl⟩, q⟩ hl
    | lst h1 h2 =>
      cases rx
      exact call_reprL gd hu pins s σ H [.ref _] _ Q I (.cons rfl .nil) ⟨_, _, rfl, .lst h1 h2, hs, hn, hl, hdep, q⟩
    | tup h1 h2 =>
      cases rx
      exact call_reprL gd hu pins s σ H [.ref _] _ Q I (.cons rfl .nil) ⟨_, _, rfl, .tup h1 h2, hs, hn, hl, hdep, q⟩
section
variable {prog : Program} {w : World} {A : Around} {E : Value → Shared → Prop} {s : Shared} {K : PySem.W.Frag} {x C f : Addr} {ox : Obj} {od : Option Obj}
theorem repr_own {Q : Value → Shared → Prop} (hu : A.units + 1 < cLine) (X : K.In s.heap) (I : PySem.W.InstAt s.heap x ox C od) (hr : PySem.W.findIn K (.ref C) "__repr__" = some (some (.ref f))) (hf : PySem.W.isFn K (.ref f) = true)
    (h : wpAny (model prog w) A.in1 (call (.ref f) [.ref x]) (fun r s' => ∃ y u, r = .str y u ∧ Q r s') E s) : wpAny (model prog w) A (call (.builtin "repr") [.ref x]) Q E s := by
  refine Calls.call_function_entry F.kind_repr F.plain_repr F.entry_repr (F.args_repr1 _) ?_
  unfold Builtin.«repr»
  refine wpAny_bind (m := oneArg "repr" _) (wpAny_pure ?_)
  refine wpAny_bind (m := cRoomFor _ _) (wpAny_cRoomFor (by show A.units + 1 < cLine; exact hu) ?_)
  refine wpAny_bind (m := specialOf (.ref x) (Str.ofString "__repr__")) ?_
  unfold specialOf
  refine wpAny_bind (I.type.here ((PySem.W.looks_findIn X hr).here ?_))
  refine wpAny_bind (m := callSpecialIfBound? (.ref x) (Str.ofString "__repr__") _) (PySem.W.ifBound_K X I hr hf (wpAny_mono h (fun r s' hz => ?_) fun _ _ y => y))
  obtain ⟨y, u, rfl, q⟩ := hz
  refine wpAny_bind (wpAny_isInstance (T := "str") (b := true) (typeIs_str _ _ _) isSubtype_str_str ?_)
  exact wpAny_pure ⟨_, rfl, q⟩
end
/-- repr(x), x an instance of the class at C whose __repr__ is at g -/
theorem call_reprO {X : Cx} {C g : Addr} {k : Nat} {sp : Sp} (hs : PySem.W.findIn X.K (.ref C) "__repr__" = some (some (.ref g))) (M : MdR X.prog X.w X.K X.mg X.base k g sp) (hr : Room (k + 1) X.A) : CallR X (.builtin "repr") (rStrO C sp) := by
  intro pins s σ H xs us Q I r h
  obtain ⟨a, dx, fs, rfl, ha, q⟩ := h
  rw [Vals.ref1 r]
  obtain ⟨ox, od, J⟩ := ins_at I ha
  have hr1 : Room k X.A.in1 := Room.in1 hr
  refine repr_own (hu_of hr) I.kIn J hs M.2.1 (wpAny_mono (wpAny_call (SlX.run_at (us := [.ref a]) (ws := [.ref a]) M.1 hr1 I.env0.in1 pass0 I (.cons rfl .nil) q)) (fun w s' z => ?_) fun _ _ x => x)
  obtain ⟨z', H', I', rz, y, rfl, qz⟩ := z
  obtain ⟨t, rfl⟩ := rz
  exact ⟨y, t, rfl, .str y, H', I', ⟨t, rfl⟩, qz⟩
def signOk (c : Nat) : Bool := decide (32 ≤ c) && decide (c < 127) && !(c == 39) && !(c == 92)
def Calm (x : Str) : Prop := ∀ c ∈ x.cps.toList, signOk c = true
theorem print_ok : (List.range 127).all (fun c => decide (c < 32) || PySem.Unicode.isPrintable c) = true := by decide +kernel
theorem calm_char {c : Nat} (h : signOk c = true) : Builtin.Str.reprChar 39 c = [c] := by
  unfold signOk at h
  simp only [Bool.and_eq_true, decide_eq_true_eq, Bool.not_eq_true', beq_eq_false_iff_ne] at h
  obtain ⟨⟨⟨h1, h2⟩, h3⟩, h4⟩ := h
  have p := List.all_eq_true.mp print_ok c (List.mem_range.mpr h2)
  rw [Bool.or_eq_true] at p
  have p : PySem.Unicode.isPrintable c = true := by
    rcases p with p | p
    · have := of_decide_eq_true p; omega
    · exact p
  unfold Builtin.Str.reprChar
  have n10 : (c == 10) = false := by rw [beq_eq_false_iff_ne]; omega
  have n13 : (c == 13) = false := by rw [beq_eq_false_iff_ne]; omega
  have n9 : (c == 9) = false := by rw [beq_eq_false_iff_ne]; omega
  have n39 : (c == 39) = false := by rw [beq_eq_false_iff_ne]; exact h3
  have n92 : (c == 92) = false := by rw [beq_eq_false_iff_ne]; exact h4
  simp only [n10, n13, n9, n39, n92, p, Bool.or_self, Bool.false_eq_true, if_false, if_true]
theorem calm_fold : ∀ (l : List Nat) (a : Array Nat), (∀ c ∈ l, signOk c = true) → l.foldl (fun out c => out ++ (Builtin.Str.reprChar 39 c).toArray) a = a ++ l.toArray
  | [], a, _ => by simp
  | c :: l, a, h => by
    rw [List.foldl_cons, calm_char (h c List.mem_cons_self), calm_fold l _ fun d hd => h d (List.mem_cons_of_mem _ hd)]
    simp
theorem calm_repr {x : Str} (h : Calm x) : reprText x = "'" ++ x ++ "'" := by
  have q : reprQuote x = 39 := by
    unfold reprQuote
    have n : x.cps.contains 39 = false := by
      rw [← Bool.not_eq_true, Array.contains_iff_mem]
      intro z
      have := h 39 (Array.mem_toList_iff.mpr z)
      revert this
      decide
    rw [n]
    rfl
  unfold reprText
  rw [q, ← Array.foldl_toList, calm_fold _ _ h]
  have e : ("'" : Str) = ⟨#[39]⟩ := by decide +kernel
  show Str.mk _ = ("'" : Str) ++ x ++ ("'" : Str)
  rw [e]
  have a1 : ∀ a b : Str, (a ++ b).cps = a.cps ++ b.cps := Str.cps_append
  have fin : (⟨#[39]⟩ ++ x ++ ⟨#[39]⟩ : Str).cps = (#[39] ++ x.cps) ++ #[39] := by rw [a1, a1]
  have : (⟨#[39]⟩ ++ x ++ ⟨#[39]⟩ : Str) = ⟨(#[39] ++ x.cps) ++ #[39]⟩ := by rw [← fin]
  rw [this]
  simp
theorem Calm.append {x y : Str} (h : Calm x) (h' : Calm y) : Calm (x ++ y) := fun c hc => by
  rw [Str.cps_append, Array.toList_append, List.mem_append] at hc
  exact hc.elim (h c) (h' c)
theorem calm_int (n : Int) : Calm (Str.ofString (toString n)) := fun c hc => by
  by_cases h : c = 45 ∨ (48 ≤ c ∧ c ≤ 57)
  · unfold signOk
    rcases h with rfl | ⟨h1, h2⟩
    · decide
    · simp only [Bool.and_eq_true, decide_eq_true_eq, Bool.not_eq_true', beq_eq_false_iff_ne]
      omega
  · exact absurd hc (int_text_free' c (by omega) n)
def Ending (r : List Nat) : Prop := ∀ c, r.head? = some c → c = 44 ∨ c = 41
theorem cut_at : ∀ {a b r r' : List Nat}, (∀ c ∈ a, c ≠ 44 ∧ c ≠ 41) → (∀ c ∈ b, c ≠ 44 ∧ c ≠ 41) → Ending r → Ending r' → a ++ r = b ++ r' → a = b ∧ r = r'
  | [], [], _, _, _, _, _, _, e => ⟨rfl, e⟩
  | [], d :: b, r, r', _, hb, hr, _, e => by
    have e : r = d :: (b ++ r') := e
    have := hr d (by rw [e]; rfl)
    have := hb d List.mem_cons_self
    omega
  | c :: a, [], r, r', ha, _, _, hr', e => by
    have e : c :: (a ++ r) = r' := e
    have := hr' c (by rw [← e]; rfl)
    have := ha c List.mem_cons_self
    omega
  | c :: a, d :: b, r, r', ha, hb, hr, hr', e => by
    have e : c :: (a ++ r) = d :: (b ++ r') := e
    obtain ⟨e1, e2⟩ := List.cons.inj e
    obtain ⟨h1, h2⟩ := cut_at (fun x hx => ha x (List.mem_cons_of_mem _ hx)) (fun x hx => hb x (List.mem_cons_of_mem _ hx)) hr hr' e2
    exact ⟨by rw [e1, h1], h2⟩
def sgn (x : Str) : List Nat := x.cps.toList
theorem sgn_append (x y : Str) : sgn (x ++ y) = sgn x ++ sgn y := by unfold sgn; rw [Str.cps_append, Array.toList_append]
theorem sgn_inj {x y : Str} (h : sgn x = sgn y) : x = y := by
  have e : x.cps = y.cps := Array.toList_inj.mp h
  cases x
  cases y
  exact congrArg Str.mk e
theorem ofString_inj {a b : String} (h : Str.ofString a = Str.ofString b) : a = b := by
  rw [Str.ofString_eq_toList, Str.ofString_eq_toList] at h
  have h1 : a.toList.map Char.toNat = b.toList.map Char.toNat := by
    have := congrArg (fun s => s.cps.toList) h
    simpa using this
  have inj : ∀ {l l' : List Char}, l.map Char.toNat = l'.map Char.toNat → l = l' := by
    intro l
    induction l with
    | nil => intro l' e; cases l' with
      | nil => rfl
      | cons _ _ => cases e
    | cons c l ih => intro l' e; cases l' with
      | nil => cases e
      | cons d l' =>
        obtain ⟨e1, e2⟩ := List.cons.inj e
        have ec : c = d := Char.ext (UInt32.toNat_inj.mp e1)
        rw [ec, ih e2]
  exact String.toList_inj.mp (inj h1)
theorem int_text_inj {n m : Int} (h : Str.ofString (toString n) = Str.ofString (toString m)) : n = m := Int.repr_injective (ofString_inj h)
theorem shown_nd (n : Int) (y o : Tr) : sgn (Tr.nd n y o).d.shown = 40 :: (sgn (Str.ofString (toString n)) ++ 44 :: 32 :: (sgn y.d.shown ++ 44 :: 32 :: (sgn o.d.shown ++ [41]))) := by
  have e : (Tr.nd n y o).d = .tuple [.int n, y.d, o.d] := rfl
  rw [e, PyData.shown_tuple, PyData.shownAll_cons, PyData.shownAll_cons, PyData.shownAll_cons, PyData.shownAll_nil, PyData.shown_int]
  have s1 : sgn (Str.ofString "(") = [40] := by decide +kernel
  have s2 : sgn (Str.ofString ", ") = [44, 32] := by decide +kernel
  have s3 : sgn (Str.ofString ")") = [41] := by decide +kernel
  have l3 : ([PyData.int n, y.d, o.d].length == 1) = false := rfl
  rw [l3]
  simp only [Str.join, Bool.false_eq_true, if_false, sgn_append, s1, s2, s3]
  simp
theorem leaf_free : ∀ (l : Lf) (c : Nat), c ∈ sgn (Tr.lf l).d.shown → c ≠ 44 ∧ c ≠ 41 ∧ c ≠ 40
  | .i n, c, hc => by
    have f := fun k hk => int_text_free' k hk n
    refine ⟨?_, ?_, ?_⟩ <;> rintro rfl
    · exact f 44 (by decide) hc
    · exact f 41 (by decide) hc
    · exact f 40 (by decide) hc
  | .b true, c, hc => by
    have : ∀ c ∈ sgn (Tr.lf (.b true)).d.shown, c ≠ 44 ∧ c ≠ 41 ∧ c ≠ 40 := by decide +kernel
    exact this c hc
  | .b false, c, hc => by
    have : ∀ c ∈ sgn (Tr.lf (.b false)).d.shown, c ≠ 44 ∧ c ≠ 41 ∧ c ≠ 40 := by decide +kernel
    exact this c hc
theorem leaf_inj : ∀ {l l' : Lf}, (Tr.lf l).d.shown = (Tr.lf l').d.shown → l = l'
  | .i n, .i m, h => by rw [int_text_inj h]
  | .i n, .b true, h => by
    have z : 84 ∈ (Str.ofString (toString n)).cps.toList := by
      rw [show Str.ofString (toString n) = (Tr.lf (.b true)).d.shown from h]
      decide +kernel
    exact absurd z (int_text_free' 84 (by decide) n)
  | .i n, .b false, h => by
    have z : 70 ∈ (Str.ofString (toString n)).cps.toList := by
      rw [show Str.ofString (toString n) = (Tr.lf (.b false)).d.shown from h]
      decide +kernel
    exact absurd z (int_text_free' 70 (by decide) n)
  | .b true, .i n, h => by
    have z : 84 ∈ (Str.ofString (toString n)).cps.toList := by
      rw [show Str.ofString (toString n) = (Tr.lf (.b true)).d.shown from h.symm]
      decide +kernel
    exact absurd z (int_text_free' 84 (by decide) n)
  | .b false, .i n, h => by
    have z : 70 ∈ (Str.ofString (toString n)).cps.toList := by
      rw [show Str.ofString (toString n) = (Tr.lf (.b false)).d.shown from h.symm]
      decide +kernel
    exact absurd z (int_text_free' 70 (by decide) n)
  | .b true, .b true, _ => rfl
  | .b false, .b false, _ => rfl
  | .b true, .b false, h => absurd h (by decide +kernel)
  | .b false, .b true, h => absurd h (by decide +kernel)
theorem ending_cons {c : Nat} {r : List Nat} (h : c = 44 ∨ c = 41) : Ending (c :: r) := fun d e => by
  cases e
  exact h
theorem int_free (n : Int) : ∀ c ∈ sgn (Str.ofString (toString n)), c ≠ 44 ∧ c ≠ 41 := fun c hc => ⟨(leaf_free (.i n) c hc).1, (leaf_free (.i n) c hc).2.1⟩
theorem no_open {l : Lf} {r : List Nat} {x : List Nat} (hr : Ending r) (e : sgn (Tr.lf l).d.shown ++ r = 40 :: x) : False := by
  cases h : sgn (Tr.lf l).d.shown with
  | nil =>
    rw [h] at e
    have := hr 40 (by rw [show r = 40 :: x from e]; rfl)
    omega
  | cons c s =>
    rw [h] at e
    have hc := leaf_free l c (by rw [h]; exact List.mem_cons_self)
    have : c = 40 := (List.cons.inj e).1
    omega
theorem shown_cut : ∀ {t t' : Tr} {r r' : List Nat}, Ending r → Ending r' → sgn t.d.shown ++ r = sgn t'.d.shown ++ r' → t = t' ∧ r = r'
  | .lf l, .lf l', r, r', hr, hr', e => by
    obtain ⟨h1, h2⟩ := cut_at (fun c hc => ⟨(leaf_free l c hc).1, (leaf_free l c hc).2.1⟩) (fun c hc => ⟨(leaf_free l' c hc).1, (leaf_free l' c hc).2.1⟩) hr hr' e
    exact ⟨by rw [leaf_inj (sgn_inj h1)], h2⟩
  | .lf l, .nd n y o, r, r', hr, _, e => by
    rw [shown_nd] at e
    exact (no_open hr e).elim
  | .nd n y o, .lf l, r, r', _, hr', e => by
    rw [shown_nd] at e
    exact (no_open hr' e.symm).elim
  | .nd n y o, .nd m y' o', r, r', hr, hr', e => by
    rw [shown_nd, shown_nd] at e
    simp only [List.cons_append, List.append_assoc, List.cons.injEq, true_and] at e
    obtain ⟨h1, e⟩ := cut_at (int_free n) (int_free m) (ending_cons (.inl rfl)) (ending_cons (.inl rfl)) e
    simp only [List.cons.injEq, true_and] at e
    obtain ⟨h2, e⟩ := shown_cut (t := y) (t' := y') (ending_cons (.inl rfl)) (ending_cons (.inl rfl)) e
    simp only [List.cons.injEq, true_and] at e
    obtain ⟨h3, e⟩ := shown_cut (t := o) (t' := o') (ending_cons (.inr rfl)) (ending_cons (.inr rfl)) e
    simp only [List.nil_append, List.cons.injEq, true_and] at e
    exact ⟨by rw [int_text_inj (sgn_inj h1), h2, h3], e⟩
theorem shown_inj {t t' : Tr} (h : t.d.shown = t'.d.shown) : t = t' := (shown_cut (r := []) (r' := []) (fun _ z => by cases z) (fun _ z => by cases z) (by rw [h])).1
end Cor
set_option Elab.async false
set_option linter.all false
set_option maxRecDepth 100000
set_option maxHeartbeats 2000000
namespace Cor
open PySem PySem.Spec PyProof.Rows L2 LamX NdefX
/-- the object at f is the lambda with the words F and the body e -/
def LamO (f : Addr) (F : NF) (e : Expr) : HO := .ext fun h => ∃ (od : Option Addr) (sl : Array (Option Value)) (pm ctv : Value), h.get? f = some (⟨.type "function", od, .func (PySem.W.kla_fn "<lambda>" F.qual F.params e F.scope F.cl pm (.ref F.c) ctv), sl⟩ : Obj)
/-- the object at c is the cell o, which holds v -/
def CellO (c : Addr) (o : Obj) (v : V) : HO := .ext fun h => h.get? c = some o ∧ ∃ u, o.data = .cell (some u) ∧ RelV v u
def Lent (H : Hp) (c : Addr) (v : V) : Prop := ∃ o, H c = some (CellO c o v)
/-- all that stood stands, but things known by what is true of them -/
def Kx (H H' : Hp) : Prop := ∀ b o, (∀ φ, o ≠ .ext φ) → H b = some o → H' b = some o
theorem Kx.refl {H : Hp} : Kx H H := fun _ _ _ e => e
theorem Kx.trans {H H1 H2 : Hp} (a : Kx H H1) (b : Kx H1 H2) : Kx H H2 := fun c o n e => b c o n (a c o n e)
theorem _root_.L2.Same.kx {H H' : Hp} (s : Same H H') : Kx H H' := fun b o _ e => s b o e
theorem lamO_at {P : Program} {w : World} {H : Hp} {h : Heap} {f : Addr} {F : NF} {e : Expr} (hok : HOk P w H h) (z : H f = some (LamO f F e)) : ∃ (od : Option Addr) (sl : Array (Option Value)) (pm ctv : Value), h.get? f = some (⟨.type "function", od, .func (PySem.W.kla_fn "<lambda>" F.qual F.params e F.scope F.cl pm (.ref F.c) ctv), sl⟩ : Obj) := (hok f _ z).1
theorem Lent.at {P : Program} {w : World} {H : Hp} {h : Heap} {c : Addr} {o : Obj} {v : V} (hok : HOk P w H h) (z : H c = some (CellO c o v)) : h.get? c = some o ∧ ∃ u, o.data = .cell (some u) ∧ RelV v u := (hok c _ z).1
section
variable {X : Cx} {pins : List (Addr × Obj)} {σ : L2.St} {H : Hp} {s : Shared}
theorem inv_lam {F : NF} {e : Expr} {o : Obj} {t' : Nat} {pm ctv : Value} (I : Inv X pins σ H s) (ho : o = PySem.W.kla_obj "<lambda>" F.qual F.params e F.scope F.cl pm F.c ctv) :
    Inv X pins σ (upd H s.heap.objs.size (LamO s.heap.objs.size F e)) { s with heap := s.heap.push o, toks := t' } := by
  subst ho
  refine I.laid (a := s.heap.objs.size) (fun b u z => Heap.get?_push_of_some _ z) (Nat.le_refl _) ?_
  have z : (s.heap.push (PySem.W.kla_obj "<lambda>" F.qual F.params e F.scope F.cl pm F.c ctv)).get? s.heap.objs.size = some (PySem.W.kla_obj "<lambda>" F.qual F.params e F.scope F.cl pm F.c ctv) := Heap.get?_push_size _ rfl
  exact ⟨⟨_, _, pm, ctv, z⟩, ⟨_, z⟩, fun h1 h2 ⟨od, sl, p, t, y⟩ st => ⟨od, sl, p, t, st _ y⟩⟩
/-- the words of the lambda that X makes -/
def lamNF (X : Cx) (params : Arguments) (scope : Scope) (c' : Addr) : NF := ⟨"<lambda>", X.env.qual ++ "<lambda>", params, [], scope, cloFrom X.env.cells scope.names [], c'⟩
theorem lamV_make {T : List (Addr × Str)} {c P : Addr} {params : Arguments} {body : Expr} {scope : Scope} {pos : Pos} {E : Value → Shared → Prop} {Q : Value → Shared → Prop} (I : Inv X pins σ H s) (TB : TabB X.base X.mg c P) (hcode : X.env.code = .ref c)
    (hm : (P, X.env.qual ++ "<lambda>") ∈ T) (hu : ∀ p ∈ T, p.1 = P → p.2 = X.env.qual ++ "<lambda>") (hT : Tabs T H) (hdef : defaultsOf params X.env = ([], [])) (hfree : ∀ y ∈ scope.names, y.2 = .free → ∃ c, X.env.cells.lookup y.1 = some c)
    (h : ∀ (f c' : Addr) (H1 : Hp) (s' : Shared), Inv X pins σ H1 s' → ExtN H H1 → Tabs T H1 → H f = none → H1 f = some (LamO f (lamNF X params scope c') body) → H1 c' = some (CodeO c' (X.env.qual ++ "<lambda>")) → Q (.ref f) s') :
    wpAny (model X.prog X.w) X.A (eval (.Lambda params body scope pos) X.env) Q E s := by
  obtain ⟨arr, eP, tri, told⟩ := hT _ hm
  refine PySem.W.kla_eval hdef ?_
  have bP := TB.bm.keeps I.bk
  have gP : s.heap.get? P = some { cls := .none, data := .fields arr } := I.hok P _ eP
  cases hc : codeAmong pos arr.toList with
  | none =>
    refine PySem.W.kla_makeFunction (mg := X.mg) (c := c) (P := P) (ps := arr) (closure_ok hfree) I.ok.glob (I.mod.glob.keeps I.bk) hcode (TB.code.keeps I.bk) gP tri hc TB.gP bP fun c' ctv h' tk ext ge lt rec tb => ?_
    obtain ⟨c2, oc, vs, t, e2, hoc, hd, hv⟩ := rec
    cases e2
    have freeC : H c' = none := I.hok.fresh ge
    have I1 := inv_table (t' := tk) (more := #[rawInt pos.line, rawInt pos.col, .ref c']) (h' := h') I eP (fun b o nb z => ext b o nb z) tb ge ⟨oc, vs, t, hoc, hd, hv⟩
    have grow : ExtN H (upd (upd H P (.tbl (arr ++ #[rawInt pos.line, rawInt pos.col, .ref c']))) c' (CodeO c' (X.env.qual ++ "<lambda>"))) := fun b o z n => by
      rw [upd_ne (ne_of_none z freeC), upd_ne (fun y => n arr (Option.some.inj (z.symm.trans (by rw [y]; exact eP))))]
      exact z
    have flat : (arr ++ #[rawInt pos.line, rawInt pos.col, .ref c']).toList = arr.toList ++ [rawInt pos.line, rawInt pos.col, .ref c'] := by simp
    have T1 : Tabs T (upd (upd H P (.tbl (arr ++ #[rawInt pos.line, rawInt pos.col, .ref c']))) c' (CodeO c' (X.env.qual ++ "<lambda>"))) := fun p hp => by
      by_cases hb : p.1 = P
      · rw [hu p hp hb, hb]
        refine ⟨_, by rw [upd_ne (ne_of_none eP freeC), upd_same], by rw [flat]; exact PySem.TriplesOk_snoc _ _ _ _ tri, fun p' cv found => ?_⟩
        rw [flat] at found
        rcases among_app _ tri found with z | z
        · obtain ⟨c0, y1, y2⟩ := told p' cv z
          exact ⟨c0, y1, grow _ _ y2 codeO_ne⟩
        · exact ⟨c', z, upd_same⟩
      · obtain ⟨qs, y1, y2, y3⟩ := hT p hp
        refine ⟨qs, by rw [upd_ne (ne_of_none y1 freeC), upd_ne hb]; exact y1, y2, fun p' cv found => ?_⟩
        obtain ⟨c0, z1, z2⟩ := y3 p' cv found
        exact ⟨c0, z1, grow _ _ z2 codeO_ne⟩
    have newF := I1.hok.fresh (Nat.le_refl _)
    have I2 := inv_lam (F := lamNF X params scope c') (e := body) (t' := tk) (pm := (X.mg "__name__").getD .none) (ctv := ctv) I1 rfl
    refine h h'.objs.size c' _ _ I2 (fun b o z n => ?_) (T1.ext fun b o z => ?_) (I.hok.fresh (Nat.le_trans ge (Nat.le_of_lt lt))) upd_same ?_
    · have y := grow b o z n
      exact (upd_ne (ne_of_none y newF)).trans y
    · exact (upd_ne (ne_of_none z newF)).trans z
    · exact (upd_ne (Nat.ne_of_lt lt)).trans upd_same
  | some cv =>
    obtain ⟨c', z, known⟩ := told pos cv hc
    subst z
    refine PySem.W.kla_makeFunctionHit (mg := X.mg) (c := c) (P := P) (ps := arr) (closure_ok hfree) I.ok.glob (I.mod.glob.keeps I.bk) hcode (TB.code.keeps I.bk) gP tri hc bP fun ctv h' tk kp sz => ?_
    have I1 : Inv X pins σ H { s with heap := h', toks := tk } := I.kept kp
    have newF : H h'.objs.size = none := I1.hok.fresh (Nat.le_refl _)
    have I2 := inv_lam (F := lamNF X params scope c') (e := body) (t' := tk) (pm := (X.mg "__name__").getD .none) (ctv := ctv) I1 rfl
    refine h h'.objs.size c' _ _ I2 (fun b o z n => ?_) (hT.ext fun b o z => ?_) newF upd_same ?_
    · exact (upd_ne (ne_of_none z newF)).trans z
    · exact (upd_ne (ne_of_none z newF)).trans z
    · exact (upd_ne (ne_of_none known newF)).trans known
end
/-- the reading of a lambda: a new function, whose captured cells are told by cl -/
def tLamV (T : List (Addr × Str)) (e : Expr) (mk : Addr → NF) : TE := fun σ H Q => Tabs T H ∧ ∀ (f c' : Addr) (H1 : Hp), ExtN H H1 → Tabs T H1 → H f = none → H1 f = some (LamO f (mk c') e) → H1 c' = some (CodeO c' (mk c').qual) →
  (∀ x y a, (mk c').cl.lookup x = some a → (mk c').cl.lookup y = some a → x = y) → (∀ y a, (mk c').cl.lookup y = some a → (y, NameKind.free) ∈ (mk c').scope.names) → Q (.ref f) H1
section
variable {X : Cx}
theorem pe_lamV {T : List (Addr × Str)} {c P : Addr} {params : Arguments} {body : Expr} {scope : Scope} {pos : Pos} (TB : TabB X.base X.mg c P) (hcode : X.env.code = .ref c) (hm : (P, X.env.qual ++ "<lambda>") ∈ T) (hu : ∀ p ∈ T, p.1 = P → p.2 = X.env.qual ++ "<lambda>")
    (hfree : ∀ y ∈ scope.names, y.2 = .free → X.env.scope.names.lookup y.1 = some .cell ∨ X.env.scope.names.lookup y.1 = some .free) (hdef : defaultsOf params X.env = ([], []) := by rfl) :
    PE X (.Lambda params body scope pos) (tLamV T body (lamNF X params scope)) := by
  refine ⟨fun pins s σ H Q I ⟨hT, h⟩ => ?_⟩
  have hfr : ∀ y ∈ scope.names, y.2 = .free → ∃ c, X.env.cells.lookup y.1 = some c := fun y hy e => (hfree y hy e).elim (fun z => I.ok.has _ (.inl z)) fun z => I.ok.has _ (.inr z)
  refine lamV_make I TB hcode hm hu hT hdef hfr fun f c' H1 s' I1 eN T1 f0 f1 c1 => ?_
  refine ⟨.ref f, H1, I1, rfl, h f c' H1 eN T1 f0 f1 c1 (fun x y a e1 e2 => I.ok.inj x y a (clo_cm hfr e1) (clo_cm hfr e2)) fun y a e => ?_⟩
  rcases cloFrom_mem (PySem.mem_of_lookup e) with z | ⟨z, _⟩
  · cases z
  · exact z
end
section
variable {P : Program} {w : World} {K : PySem.W.Frag} {mg : Str → Option Value} {base : Heap} {N ps fr : List Str} {F : NF} {f : Addr} {e : Expr} {k : Nat} {sp : List V → List V → Hp → VK → Prop}
theorem lam_run (S : NScope N ps fr F.scope) (hb : ∀ (pm ctv : Value) (us : List Value), us.length = ps.length → bindArgs (PySem.W.kla_fn "<lambda>" F.qual F.params e F.scope F.cl pm (.ref F.c) ctv) ⟨us, []⟩ = pure (ps.zip us))
    (hbody : ∀ (A : Around) (outer : List Env) (s : Shared) (H : Hp) (vs ws : List V) (Q : VK), Room k (A.deeper (envF F f s.heap.objs.size)) → sp ws vs H Q → ∃ t, PE (ncx CX0 P w K mg base N F f A outer s H E0) e t ∧ t (startF N vs (ws.map some)) H Q)
    {A : Around} {outer : List Env} {s : Shared} {H : Hp} {us : List Value} {vs ws : List V} {Q : VK} {E : XK} (hr : Room (k + 1) A) (e0 : Env0 P w K mg base A outer s H) (hf : H f = some (LamO f F e)) (hc : H F.c = some (CodeO F.c F.qual))
    (C : CellsAt F.cl fr (ws.map some) s.heap H) (r : Vals vs us) (hl : vs.length = ps.length) (q : sp ws vs H Q) : codeAny (model P w) A (.call (.ref f) ⟨us, []⟩) (CR CX0 outer P w H s Q E) s := by
  have lim : s.heap.NoLimit := e0.mod.nolimit.keeps fun b o z => (e0.bs b o z).1
  obtain ⟨od, sl, pm, ctv, ho⟩ := lamO_at e0.hok hf
  refine PySem.W.kla_callFunE hr.depth ho rfl S.co S.gen rfl (codeO_at e0.hok hc) ?_
  rw [hb pm ctv us (r.length.symm.trans hl)]
  refine wpAny_pure (wpAny_newFunctionEnv S.nocell (fun ⟨n, _⟩ hy => S.par n (List.of_mem_zip hy).1) (fun h₁ hns hsb => ⟨lim.fresh _ hsb, ?_⟩) S.kind)
  show codeAny _ _ (.expr e (envF F f s.heap.objs.size)) _ _
  have kp : ∀ b o, s.heap.get? b = some o → h₁.get? b = some o := fun b o z => hsb.extBut b o (Nat.ne_of_lt (Heap.lt_size z)) (Heap.get?_push_of_some _ z)
  obtain ⟨t, ht, hq⟩ := hbody A outer s H vs ws Q (hr.deeper _) q
  have I : Inv (ncx CX0 P w K mg base N F f A outer s H E0) [] (startF N vs (ws.map some)) H { s with heap := h₁, toks := s.toks + (ps.zip us).length } := inv_startN S hr.hd e0 hl r C hns kp
  refine PySem.W.kla_codeExpr (wpAny_mono (ht.run [] _ _ H Q I hq) (fun v s' hz => ?_) fun e s' hz => ?_)
  · obtain ⟨w', H', J, rv, q'⟩ := hz
    exact ⟨w', H', J.os, J.bare, J.base, J.hok, rv, q'⟩
  · exact hz
/-- the addresses of the captured cells -/
def isCap (F : NF) (fr : List Str) (b : Addr) : Bool := fr.any fun y => decide (F.cl.lookup y = some b)
theorem isCap_iff {F : NF} {fr : List Str} {b : Addr} : isCap F fr b = true ↔ ∃ y ∈ fr, F.cl.lookup y = some b := by
  unfold isCap
  rw [List.any_eq_true]
  constructor
  · rintro ⟨y, hy, z⟩; exact ⟨y, hy, of_decide_eq_true z⟩
  · rintro ⟨y, hy, z⟩; exact ⟨y, hy, decide_eq_true z⟩
/-- the promise of a lambda whose captured cells are lent -/
def spLam (ps fr : List Str) (F : NF) (f : Addr) (e : Expr) (sp : List V → List V → Hp → VK → Prop) : Sp := fun vs H Q _ => vs.length = ps.length ∧ H f = some (LamO f F e) ∧ H F.c = some (CodeO F.c F.qual) ∧
  ∃ ws : List V, ws.length = fr.length ∧ (∀ (i : Nat) (y : Str), fr[i]? = some y → ∃ c v, F.cl.lookup y = some c ∧ ws[i]? = some v ∧ Lent H c v) ∧
    ∀ H0, Kx H H0 → sp ws vs H0 fun v H2 => ∀ H3, (Same H0 H2 → Same H H3) → Kx H2 H3 → Q v H3
theorem lam_fnR (S : NScope N ps fr F.scope) (hb : ∀ (pm ctv : Value) (us : List Value), us.length = ps.length → bindArgs (PySem.W.kla_fn "<lambda>" F.qual F.params e F.scope F.cl pm (.ref F.c) ctv) ⟨us, []⟩ = pure (ps.zip us))
    (inj : ∀ x y a, F.cl.lookup x = some a → F.cl.lookup y = some a → x = y) (dom : ∀ y a, F.cl.lookup y = some a → (y, NameKind.free) ∈ F.scope.names)
    (hbody : ∀ (A : Around) (outer : List Env) (s : Shared) (H : Hp) (vs ws : List V) (Q : VK), Room k (A.deeper (envF F f s.heap.objs.size)) → sp ws vs H Q → ∃ t, PE (ncx CX0 P w K mg base N F f A outer s H E0) e t ∧ t (startF N vs (ws.map some)) H Q) :
    FnR P w K mg base CX0 (k + 1) f (spLam ps fr F f e sp) := by
  intro A outer s H us vs Q E hr e0 r h
  obtain ⟨hl, hf, hc, ws, lw, hw, q⟩ := h
  -- every captured cell is lent
  have lent : ∀ b, isCap F fr b = true → ∃ o v, H b = some (CellO b o v) ∧ s.heap.get? b = some o ∧ ∃ u, o.data = .cell (some u) := fun b hb => by
    obtain ⟨y, hy, z⟩ := isCap_iff.mp hb
    obtain ⟨i, hi⟩ := List.mem_iff_getElem?.mp hy
    obtain ⟨c, v, e1, _, o, e2⟩ := hw i y hi
    rw [z] at e1
    cases e1
    obtain ⟨g, u, d, _⟩ := Lent.at e0.hok e2
    exact ⟨o, v, e2, g, u, d⟩
  have nf : isCap F fr f = false := by
    cases z : isCap F fr f with
    | false => rfl
    | true =>
      obtain ⟨o, v, _, g, u, d⟩ := lent f z
      obtain ⟨od, sl, pm, ctv, ho⟩ := lamO_at e0.hok hf
      rw [ho] at g
      cases g
      cases d
  have nc : isCap F fr F.c = false := by
    cases z : isCap F fr F.c with
    | false => rfl
    | true =>
      obtain ⟨o, v, _, g, u, d⟩ := lent F.c z
      obtain ⟨⟨oc, vs, t, h1, h2, _⟩, _⟩ := e0.hok F.c _ hc
      rw [h1] at g
      cases g
      rw [h2] at d
      cases d
  let H0 : Hp := fun b => if isCap F fr b = true then none else H b
  have in0 : ∀ {b}, isCap F fr b = true → H0 b = none := fun {b} z => if_pos z
  have out0 : ∀ {b}, isCap F fr b = false → H0 b = H b := fun {b} z => if_neg (by rw [z]; exact Bool.false_ne_true)
  have of0 : ∀ {b o}, H0 b = some o → isCap F fr b = false ∧ H b = some o := fun {b o} z => by
    cases y : isCap F fr b with
    | true => rw [in0 y] at z; cases z
    | false => rw [out0 y] at z; exact ⟨rfl, z⟩
  have none0 : ∀ {b}, H b = none → H0 b = none := fun {b} z => by
    cases y : isCap F fr b with
    | true => exact in0 y
    | false => rw [out0 y]; exact z
  have notext : ∀ {b o}, (∀ φ, o ≠ .ext φ) → H b = some o → isCap F fr b = false := fun {b o} n z => by
    cases y : isCap F fr b with
    | false => rfl
    | true =>
      obtain ⟨ob, v, e2, _⟩ := lent b y
      rw [e2] at z
      exact absurd (Option.some.inj z).symm (n _)
  have kx0 : Kx H H0 := fun b o n z => by rw [out0 (notext n z)]; exact z
  have hok0 : HOk P w H0 s.heap := fun b o z => by
    obtain ⟨y, z'⟩ := of0 z
    exact (e0.hok b o z').stay (fun _ _ _ g => g) (fun c g => kx0 c _ (fun φ a => by cases a) g) fun c xs g => kx0 c _ (fun φ a => by cases a) g
  have e1 : Env0 P w K mg base A outer s H0 := ⟨e0.frames, e0.mod, fun b o z => ⟨(e0.bs b o z).1, none0 (e0.bs b o z).2⟩, e0.bsz, e0.funs, fun b hb => none0 (e0.frf b hb), hok0, e0.bare⟩
  have dom' : ∀ y a, F.cl.lookup y = some a → y ∈ fr := fun y a z => S.free (y, .free) (dom y a z) rfl
  have C : CellsAt F.cl fr (ws.map some) s.heap H0 := by
    refine ⟨by rw [List.length_map]; exact lw, fun y c z => ?_, inj, fun i y hi => ?_⟩
    · have cap : isCap F fr c = true := isCap_iff.mpr ⟨y, dom' y c z, z⟩
      obtain ⟨o, v, _, g, u, d⟩ := lent c cap
      exact ⟨in0 cap, some u, o, g, d⟩
    · obtain ⟨c, v, e2, e3, o, e4⟩ := hw i y hi
      refine ⟨c, e2, fun v' z => ?_⟩
      rw [List.getElem?_map, e3] at z
      cases z
      obtain ⟨g, u, d, rv⟩ := Lent.at e0.hok e4
      exact ⟨u, rv, o, g, d⟩
  refine codeAny_mono (lam_run (E := E) S hb hbody hr e1 (by rw [out0 nf]; exact hf) (by rw [out0 nc]; exact hc) C r hl (q H0 kx0)) fun res s' z => ?_
  match res, z with
  | .error e, z => exact z
  | .ok .next, z => exact z
  | .ok .brk, z => exact z
  | .ok .cont, z => exact z
  | .ok (.ret u), ⟨v, H2, os, bare, un, hok2, rv, q2⟩ =>
    let H3 : Hp := fun b => if isCap F fr b = true then H b else H2 b
    have in3 : ∀ {b}, isCap F fr b = true → H3 b = H b := fun {b} z => if_pos z
    have out3 : ∀ {b}, isCap F fr b = false → H3 b = H2 b := fun {b} z => if_neg (by rw [z]; exact Bool.false_ne_true)
    have cap2 : ∀ {b}, isCap F fr b = true → H2 b = none := fun {b} z => by
      obtain ⟨o, _, _, g, _⟩ := lent b z
      exact un.free b o g (in0 z) (by simp)
    have out2 : ∀ {b o}, H2 b = some o → isCap F fr b = false := fun {b o} z => by
      cases y : isCap F fr b with
      | false => rfl
      | true => rw [cap2 y] at z; cases z
    have nfr : ∀ {b}, isCap F fr b = true → b ∉ frs outer := fun {b} z hb => by
      obtain ⟨o, _, e2, _⟩ := lent b z
      rw [e0.frf b hb] at e2
      cases e2
    have ncap : ∀ {b}, H b = none → isCap F fr b = false := fun {b} z => by
      cases y : isCap F fr b with
      | false => rfl
      | true =>
        obtain ⟨o, _, e2, _⟩ := lent b y
        rw [z] at e2
        cases e2
    have up : ∀ {b o}, H2 b = some o → H3 b = some o := fun {b o} z => by rw [out3 (out2 z)]; exact z
    refine ⟨v, H3, os, bare, ⟨fun b o g n nb _ => un.keep b o g (none0 n) nb (by simp), fun b o g n nb _ => un.slot b o g (none0 n) nb (by simp), fun b o g n _ => ?_, fun b o g _ => un.there b o g (by simp), fun b xs z => ?_, fun b o xs z => ?_, fun b ps z => ?_⟩, fun b o z => ?_, rv, q2 H3 (fun sm b o z => ?_) fun b o _ z => up z⟩
    · rw [out3 (ncap n)]; exact un.free b o g (none0 n) (by simp)
    · exact up (un.tups b xs (kx0 b _ (fun φ a => by cases a) z))
    · exact up (un.frzs b o xs (kx0 b _ (fun φ a => by cases a) z))
    · obtain ⟨more, y⟩ := un.tbls b ps (kx0 b _ (fun φ a => by cases a) z)
      exact ⟨more, up y⟩
    · cases y : isCap F fr b with
      | false =>
        rw [out3 y] at z
        exact (hok2 b o z).stay (fun _ _ _ g => g) (fun c g => up g) fun c xs g => up g
      | true =>
        obtain ⟨ob, vb, e2, g, ub, d⟩ := lent b y
        rw [in3 y, e2] at z
        cases z
        have g' := un.keep b ob g (in0 y) (nfr y) (by simp)
        obtain ⟨⟨_, u1, d1, r1⟩, _, st⟩ := e0.hok b _ e2
        exact ⟨⟨g', u1, d1, r1⟩, ⟨ob, g'⟩, st⟩
    · cases y : isCap F fr b with
      | true => rw [in3 y]; exact z
      | false => exact up (sm b o (by rw [out0 y]; exact z))
end
/-- f(e, ..), f a name that holds a lambda -/
def tAsk (P : Program) (w : World) (K : PySem.W.Frag) (mg : Str → Option Value) (base : Heap) (k i : Nat) (t : TA) : TE := fun σ H Q => ∃ f F b spL, σ[i]? = some (some (.ref f)) ∧ H f = some (LamO f F b) ∧ FnR P w K mg base CX0 k f spL ∧
  t σ H fun vs H1 => H1 f = some (LamO f F b) ∧ spL vs H1 Q E0
section
variable {X : Cx} {k i : Nat} {x : Str} {p pos : Pos} {e : Expr} {es : List Expr} {t : TA} {sp : Sp} {ps : List Str}
theorem lamAt_of {pins : List (Addr × Obj)} {σ : L2.St} {H : Hp} {s : Shared} {f : Addr} {F : NF} {b : Expr} (I : Inv X pins σ H s) (z : H f = some (LamO f F b)) : PySem.W.FnAt f s.heap := by
  obtain ⟨od, sl, pm, ctv, ho⟩ := lamO_at I.hok z
  exact ⟨_, od, _, sl, ho⟩
theorem pe_ask (hr : Room k X.A) (hN : X.N[i]? = some x) (hv : Vis X.env.scope x) (ha : PA X (e :: es) t) (hdb : (x == ("__debug__" : Str)) = false := by decide) (hcd : (x == ("__classdict__" : Str)) = false := by decide)
    (he : starEach (e :: es) X.env = (false, eval e X.env) :: starEach es X.env := by rfl) (hpl : (backTo pos (starEach es X.env)).any (·.1) = false := by rfl) :
    PE X (.Call (.Name x p) (e :: es) [] pos) (tAsk X.prog X.w X.K X.mg X.base k i t) := by
  refine ⟨fun pins s σ H Q I h => ?_⟩
  obtain ⟨f, F, b, spL, hs, hf, R, ht⟩ := h
  refine wpAny_Call_Name_kw (thn ((pe_var (pos := p) hN hv hdb hcd).run pins s σ H (fun v H1 => v = .ref f ∧ H1 = H) I ⟨.ref f, hs, rfl, rfl⟩) fun u s1 ⟨v, H1, I1, r1, q1⟩ => ?_)
  obtain ⟨ev, eH⟩ := q1
  subst ev
  rw [eH] at I1
  obtain rfl : u = Value.ref f := r1
  refine PySem.W.callWith_F (first := []) (lamAt_of I1 hf) (thn (ha.run pos pins s1 σ H _ I1 ht) fun us s2 ⟨vs, H2, I2, r, h1, q⟩ => ⟨lamAt_of I2 h1, ?_⟩) he hpl
  exact wpAny_call (run_fnR R hr pass0 I2 r q)
/-- what is lent: the cells of the names fr -/
def lentAt (h : Heap) (H : Hp) (cl : List (Str × Addr)) (fr : List Str) (ws : List (Option V)) (b : Addr) (o : Obj) (v : V) : Prop :=
  h.get? b = some o ∧ H b = none ∧ (∃ u, o.data = .cell (some u) ∧ RelV v u) ∧ ∃ (i : Nat) (y : Str), fr[i]? = some y ∧ ws[i]? = some (some v) ∧ cl.lookup y = some b
open Classical in
noncomputable def lendH (h : Heap) (H : Hp) (cl : List (Str × Addr)) (fr : List Str) (ws : List (Option V)) : Hp := fun b =>
  if z : ∃ o v, lentAt h H cl fr ws b o v then some (CellO b z.choose z.choose_spec.choose) else H b
theorem run_lend {pins : List (Addr × Obj)} {σ : L2.St} {H : Hp} {s : Shared} {Q : VK} {f : Addr} {fd : FuncData} {us : List Value} {vs : List V} {cl : List (Str × Addr)} {fr : List Str} {js : List Nat} (F : FnG X.prog X.w X.K X.mg X.base CX0 k f fd ps sp) (hr : Room k X.A) (gd : X.A.guards = some [])
    (hb : Binds X.K fd ps []) (cp : Caps X cl fr js) (hfn : ∀ y ∈ fr, X.fn y = true) (nd : fr.Nodup) (I : Inv X pins σ H s) (r : Vals vs us)
    (h : ∀ Hl : Hp, Same H Hl → (∀ (i : Nat) (y : Str) (v : V), fr[i]? = some y → (js.map (slotAt σ))[i]? = some (some v) → ∃ a, cl.lookup y = some a ∧ Lent Hl a v) → sp vs Hl (fun v H2 => Same Hl H2 ∧ ∀ H3, Same H H3 → Kx H2 H3 → Q v H3) E0) :
    wpAny (model X.prog X.w) X.A (call (.ref f) us) (EP X pins σ Q) X.xe s := by
  have C := cells_of I cp
  have HL : ∃ Hl : Hp, (∀ b o, H b = some o → Hl b = some o) ∧ (∀ b, Hl b = H b ∨ ∃ o v, lentAt s.heap H cl fr (js.map (slotAt σ)) b o v ∧ Hl b = some (CellO b o v)) ∧
      (∀ (i : Nat) (y : Str) (v : V), fr[i]? = some y → (js.map (slotAt σ))[i]? = some (some v) → ∃ a, cl.lookup y = some a ∧ Lent Hl a v) := by
    refine ⟨lendH s.heap H cl fr (js.map (slotAt σ)), fun b o z => ?_, fun b => ?_, fun i y v e1 e2 => ?_⟩
    · unfold lendH
      rw [dif_neg]
      · exact z
      · rintro ⟨o', v, _, n, _⟩
        rw [z] at n
        cases n
    · unfold lendH
      by_cases z : ∃ o v, lentAt s.heap H cl fr (js.map (slotAt σ)) b o v
      · rw [dif_pos z]
        exact .inr ⟨_, _, z.choose_spec.choose_spec, rfl⟩
      · rw [dif_neg z]
        exact .inl rfl
    · obtain ⟨c, hc, hv⟩ := C.has i y e1
      obtain ⟨u, ru, o, go, du⟩ := hv v e2
      have z : ∃ o v, lentAt s.heap H cl fr (js.map (slotAt σ)) c o v := ⟨o, v, go, (C.all y c hc).1, ⟨u, du, ru⟩, i, y, e1, e2, hc⟩
      refine ⟨c, hc, z.choose, ?_⟩
      unfold lendH
      rw [dif_pos z]
      obtain ⟨_, _, _, i', y', e1', e2', hc'⟩ := z.choose_spec.choose_spec
      have ey := C.inj _ _ _ hc hc'
      rw [← ey] at e1'
      have ei : i = i' := nodup_ix nd e1 e1'
      rw [← ei, e2] at e2'
      rw [← Option.some.inj (Option.some.inj e2')]
  obtain ⟨Hl, sm, cs, ln⟩ := HL
  have cellNone : ∀ {b o v}, lentAt s.heap H cl fr (js.map (slotAt σ)) b o v → X.s_0.heap.objs.size ≤ b ∧ b ≠ X.env.locals := fun {b o v} z => by
    obtain ⟨_, _, _, i, y, e1, _, e3⟩ := z
    have ec := cp.sub y b e3
    exact ⟨I.ok.cab y b (hfn y (List.mem_of_getElem? e1)) ec, I.cne y b ec⟩
  have bsl : ∀ b, (∃ o, X.s_0.heap.get? b = some o) ∨ b = X.env.locals → H b = none → Hl b = none := fun b hb n => by
    rcases cs b with z | ⟨o, v, z, _⟩
    · rw [z]; exact n
    · obtain ⟨l1, l2⟩ := cellNone z
      rcases hb with ⟨ob, g⟩ | g
      · exact absurd (Nat.lt_of_lt_of_le (Heap.lt_size g) l1) (Nat.lt_irrefl _)
      · exact absurd g l2
  have e0 := I.env0
  have hokl : HOk X.prog X.w Hl s.heap := fun b o z => by
    rcases cs b with y | ⟨ob, v, y, y2⟩
    · rw [y] at z
      exact (I.hok b o z).stay (fun _ _ _ g => g) (fun c g => sm c _ g) fun c xs g => sm c _ g
    · rw [y2] at z
      cases z
      obtain ⟨g, _, ⟨u, d, ru⟩, _⟩ := y
      exact ⟨⟨g, u, d, ru⟩, ⟨ob, g⟩, fun h1 h2 ⟨a1, a2⟩ st => ⟨st _ a1, a2⟩⟩
  have e1 : Env0 X.prog X.w X.K X.mg X.base X.A X.stack s Hl := by
    refine ⟨e0.frames, e0.mod, fun b o z => ⟨(e0.bs b o z).1, bsl b (.inl ⟨o, (I.ok.bs b o z).1⟩) (e0.bs b o z).2⟩, e0.bsz, e0.funs, fun b hb => ?_, hokl, e0.bare⟩
    rcases List.mem_cons.mp (I.stkSub b hb) with z | z
    · exact bsl b (.inr z) (e0.frf b hb)
    · obtain ⟨_, o, ho, _⟩ := I.ok.funs.mem z
      exact bsl b (.inl ⟨o, ho⟩) (e0.frf b hb)
  have hq := h Hl sm ln
  have hl : us.length = ps.length := r.length.symm.trans (F.len _ _ _ _ hq)
  have hbs := hb s us I.kIn (by rw [List.append_nil]; exact hl)
  rw [List.append_nil] at hbs
  refine wpAny_call (codeAny_mono (F.run X.A X.stack s Hl ⟨us, []⟩ us vs _ E0 hr gd e1 hbs r hq) fun res s' z => ?_)
  match res, z with
  | .error e, z => exact z.elim
  | .ok .next, z => exact z.elim
  | .ok .brk, z => exact z.elim
  | .ok .cont, z => exact z.elim
  | .ok (.ret u), ⟨v, H2, os, bare, un, hok2, rv, same2, q2⟩ =>
    refine I.after ?_
    let H3 : Hp := fun b => if ((H b).isNone && (Hl b).isSome) = true then none else H2 b
    have some3 : ∀ {b o}, H b = some o → H3 b = H2 b := fun {b o} z => if_neg (by rw [z]; simp)
    have none3 : ∀ {b}, H b = none → Hl b = none → H3 b = H2 b := fun {b} z y => if_neg (by rw [z, y]; simp)
    have lent3 : ∀ {b o v}, H b = none → Hl b = some (CellO b o v) → H3 b = none := fun {b o v} z y => if_pos (by rw [z, y]; simp)
    have kx3 : Kx H2 H3 := fun b o n z => by
      cases hb : H b with
      | some ob => rw [some3 hb]; exact z
      | none =>
        cases hlb : Hl b with
        | none => rw [none3 hb hlb]; exact z
        | some ol =>
          rcases cs b with y | ⟨o', v', y, y2⟩
          · rw [y, hb] at hlb; cases hlb
          · rw [same2 b _ y2] at z
            cases z
            exact absurd rfl (n _)
    have same3 : Same H H3 := fun b o z => by rw [some3 z]; exact same2 b o (sm b o z)
    have cell2 : ∀ {b o v}, Hl b = some (CellO b o v) → s'.heap.get? b = some o := fun {b o v} z => (Lent.at hok2 (same2 _ _ z)).1
    refine ⟨v, H3, os, bare, ⟨fun b o g n nb _ => ?_, fun b o g n nb _ => ?_, fun b o g n _ => ?_, fun b o g _ => un.there b o g (by simp), fun b xs z => same3 b _ z, fun b o xs z => same3 b _ z, fun b qs z => ⟨#[], by rw [same3 b _ z]; simp⟩⟩, fun b o z => ?_, rv, q2 H3 same3 kx3⟩
    · rcases cs b with y | ⟨o', v', y, y2⟩
      · exact un.keep b o g (by rw [y]; exact n) nb (by simp)
      · have g2 := cell2 y2
        rw [y.1] at g
        cases g
        exact g2
    · rcases cs b with y | ⟨o', v', y, y2⟩
      · exact un.slot b o g (by rw [y]; exact n) nb (by simp)
      · have g2 := cell2 y2
        rw [y.1] at g
        cases g
        exact ⟨o.slots, g2⟩
    · rcases cs b with y | ⟨o', v', y, y2⟩
      · rw [none3 n (by rw [y]; exact n)]
        exact un.free b o g (by rw [y]; exact n) (by simp)
      · exact lent3 n y2
    · have z2 : H2 b = some o := by
        have z' : (if ((H b).isNone && (Hl b).isSome) = true then none else H2 b) = some o := z
        split at z'
        · cases z'
        · exact z'
      exact (hok2 b o z2).stay (fun _ _ _ g => g) (fun c g => kx3 c _ (fun φ a => by cases a) g) fun c xs g => kx3 c _ (fun φ a => by cases a) g
end
end Cor
set_option Elab.async false
set_option linter.all false
set_option maxRecDepth 100000
set_option maxHeartbeats 1000000
namespace Cor
open PySem PySem.Spec PyProof.Rows L2
def kvW (kv : Int × Bool) : Key × V := (Sum.inl kv.1, V.bl kv.2)
/-- the words ws, by number -/
def lookW (ws : List (Int × Bool)) : Int → Option Bool := fun n => ws.lookup n
theorem val_kvW : ∀ (ws : List (Int × Bool)) (n : Int), valV (ws.map kvW) (Sum.inl n) = (lookW ws n).map V.bl
  | [], n => rfl
  | kv :: ws, n => by
    unfold lookW
    rw [List.map_cons, List.lookup_cons]
    by_cases e : n = kv.1
    · rw [valV_pos (by rw [e]; rfl), show (n == kv.1) = true from by rw [e]; exact beq_self_eq_true _]
      rfl
    · rw [valV_neg (fun z => e (Sum.inl.inj z).symm), show (n == kv.1) = false from by rw [beq_eq_false_iff_ne]; exact e]
      exact val_kvW ws n
theorem put_fresh {ws : List (Int × Bool)} {kv : Int × Bool} (h : kv.1 ∉ ws.map (·.1)) : putK (ws.map kvW) (Sum.inl kv.1) (V.bl kv.2) = (ws ++ [kv]).map kvW := by
  unfold putK
  rw [if_neg, List.map_append]
  · rfl
  · intro z
    obtain ⟨p, hp, e⟩ := List.any_eq_true.mp z
    obtain ⟨q, hq, rfl⟩ := List.mem_map.mp hp
    have e : (Sum.inl q.1 : Key) = Sum.inl kv.1 := of_decide_eq_true e
    exact h (List.mem_map.mpr ⟨q, hq, Sum.inl.inj e⟩)
theorem merge_fresh : ∀ (ws acc : List (Int × Bool)), ((acc ++ ws).map (·.1)).Nodup → mergeK (acc.map kvW) (ws.map kvW) = (acc ++ ws).map kvW
  | [], acc, _ => by rw [List.append_nil]; rfl
  | kv :: ws, acc, h => by
    have h' : (((acc ++ [kv]) ++ ws).map (·.1)).Nodup := by rw [List.append_assoc]; exact h
    have fr : kv.1 ∉ acc.map (·.1) := fun z => by
      rw [List.map_append, List.map_cons] at h
      exact (List.nodup_append.mp h).2.2 kv.1 z kv.1 List.mem_cons_self rfl
    have e : mergeK (acc.map kvW) ((kv :: ws).map kvW) = mergeK (putK (acc.map kvW) (Sum.inl kv.1) (V.bl kv.2)) (ws.map kvW) := rfl
    rw [e, put_fresh fr, merge_fresh ws _ h', List.append_assoc]
    rfl
/-- the dict of the words ws stands at d -/
def Wl (H : Hp) (d : Addr) (ws : List (Int × Bool)) : Prop := H d = some (.dK (ws.map kvW)) ∧ (ws.map (·.1)).Nodup ∧ ws.length ≤ 60
theorem Wl.kx {H H' : Hp} {d : Addr} {ws : List (Int × Bool)} (k : Kx H H') (h : Wl H d ws) : Wl H' d ws := ⟨k _ _ (fun _ z => by cases z) h.1, h.2⟩
theorem Wl.same {H H' : Hp} {d : Addr} {ws : List (Int × Bool)} (k : Same H H') (h : Wl H d ws) : Wl H' d ws := ⟨k _ _ h.1, h.2⟩
theorem Tv.kx {H H' : Hp} (k : Kx H H') : ∀ {t : Tr} {v : V}, Tv H v t → Tv H' v t
  | .lf _, _, h => by rw [h.lf_of]; exact .lf _
  | .nd n ty to, _, h => by
    obtain ⟨a, y, o, rfl, h1, h2, h3⟩ := h.nd_of
    exact .nd (k _ _ (fun _ z => by cases z) h1) (Tv.kx k h2) (Tv.kx k h3)
theorem lookW_append {ws : List (Int × Bool)} {kv : Int × Bool} (h : kv.1 ∉ ws.map (·.1)) (m : Int) : lookW (ws ++ [kv]) m = if m = kv.1 then some kv.2 else lookW ws m := by
  unfold lookW
  rw [List.lookup_append]
  by_cases e : m = kv.1
  · rw [if_pos e]
    have n : ws.lookup m = none := by
      rw [List.lookup_eq_none_iff]
      intro p hp
      rw [bne_iff_ne, e]
      exact fun z => h (List.mem_map.mpr ⟨p, hp, z.symm⟩)
    rw [n, e, List.lookup_cons, beq_self_eq_true]
    rfl
  · rw [if_neg e]
    have : [kv].lookup m = none := by
      rw [List.lookup_cons, show (m == kv.1) = false from by rw [beq_eq_false_iff_ne]; exact e]
      rfl
    rw [this]
    simp
theorem lookW_some : ∀ {ws : List (Int × Bool)} {n : Int}, n ∈ ws.map (·.1) → (lookW ws n).isSome = true
  | kv :: ws, n, h => by
    unfold lookW
    rw [List.lookup_cons]
    by_cases e : n = kv.1
    · rw [show (n == kv.1) = true from by rw [e]; exact beq_self_eq_true _]
      rfl
    · rw [show (n == kv.1) = false from by rw [beq_eq_false_iff_ne]; exact e]
      rcases List.mem_cons.mp h with z | z
      · exact absurd z e
      · exact lookW_some z
/-- the tuples of these pairs stand at ps -/
def Prw (H : Hp) (ps : List Addr) (ws : List (Int × Bool)) : Prop := Paired (fun q kv => H q = some (.tup [.int kv.1, .bl kv.2])) ps ws
theorem Prw.same {H H' : Hp} {ps : List Addr} {ws : List (Int × Bool)} (k : Same H H') (h : Prw H ps ws) : Prw H' ps ws := Paired.mapP h fun _ _ e => k _ _ e
theorem Prw.snoc {H : Hp} {q : Addr} {kv : Int × Bool} (hq : H q = some (.tup [.int kv.1, .bl kv.2])) : ∀ {ps : List Addr} {ws : List (Int × Bool)}, Prw H ps ws → Prw H (ps ++ [q]) (ws ++ [kv])
  | [], [], _ => .cons hq .nil
  | _ :: _, _ :: _, .cons a r => .cons a (Prw.snoc hq r)
theorem Prw.kv {K : PySem.W.Frag} {H : Hp} : ∀ {ps : List Addr} {ws : List (Int × Bool)}, Prw H ps ws → Paired (fun p kv => SqT K H p [kV kv.1, kv.2]) ps (ws.map kvW)
  | [], [], _ => .nil
  | _ :: _, _ :: _, .cons a r => .cons (SqT.of a) (Prw.kv r)
theorem Prw.len {H : Hp} : ∀ {ps : List Addr} {ws : List (Int × Bool)}, Prw H ps ws → ps.length = ws.length
  | [], [], _ => rfl
  | _ :: _, _ :: _, .cons _ r => congrArg Nat.succ (Prw.len r)
theorem Prw.of {H : Hp} : ∀ {ps : List Addr} {ws : List (Int × Bool)}, Paired (fun (t : Addr) (q : Key × V) => H t = some (.tup [kV q.1, q.2])) ps (ws.map kvW) → Prw H ps ws
  | [], [], _ => .nil
  | _ :: _, _ :: _, .cons a r => .cons a (Prw.of r)
  | [], _ :: _, h => by cases h
  | _ :: _, [], h => by cases h
theorem Tr.d_noDict : ∀ t : Tr, t.d.hasDict = false := fun t => PyData.hasDict_of_canLay _ t.d_lay
/-- numbers and values that have texts: all below 2 ^ 1900 -/
def Sml : Tr → Prop
  | .lf (.i n) => n.natAbs.log2 < 1920
  | .lf (.b _) => True
  | .nd n y o => n.natAbs.log2 < 1920 ∧ Sml y ∧ Sml o
theorem log_lt {n : Int} {B : Nat} (h : n.natAbs < 2 ^ B) (hB : B ≤ 1920) (h0 : 0 < B) : n.natAbs.log2 < 1920 := by
  by_cases e : n.natAbs = 0
  · rw [e]; decide
  · have := (Nat.log2_lt e).mpr h
    omega
theorem Cn.sml {k : Bool} {B : Nat} (h0 : 0 < B) (hB : B ≤ 1920) : ∀ {S : List Int} {t : Tr}, (∀ n ∈ S, n.natAbs < 2 ^ 1900) → Cn (Lg k B) S t → Sml t
  | S, .lf (.i n), _, h => log_lt h.lf_of.2 hB h0
  | S, .lf (.b n), _, h => True.intro
  | [], .nd _ _ _, _, h => h.elim
  | s :: S, .nd n y o, hs, h => by
    have hs' : ∀ n ∈ S, n.natAbs < 2 ^ 1900 := fun n hn => hs n (List.mem_cons_of_mem _ hn)
    rcases h with ⟨h1, _, h3, h4⟩ | h
    · exact ⟨log_lt (by rw [h1]; exact hs s List.mem_cons_self) (by decide) (by decide), Cn.sml h0 hB hs' h3, Cn.sml h0 hB hs' h4⟩
    · exact Cn.sml (S := S) h0 hB hs' h
theorem Sml.show : ∀ {t : Tr}, Sml t → t.d.showable = true
  | .lf (.i n), h => decide_eq_true h
  | .lf (.b n), _ => rfl
  | .nd n y o, h => by
    show (PyData.showable (.int n) && (y.d.showable && (o.d.showable && true))) = true
    rw [Sml.show h.2.1, Sml.show h.2.2, show PyData.showable (.int n) = true from decide_eq_true h.1]
    rfl
theorem len_sgn (x : Str) : x.length = (sgn x).length := by unfold sgn; rw [Array.length_toList]; rfl
theorem text_len {n : Int} (h : n.natAbs.log2 < 1920) : (sgn (Str.ofString (toString n))).length ≤ 1921 := by
  rw [← len_sgn, PySem.ofString_length]
  exact PySem.int_text_length_le (by decide) h
theorem Sml.len : ∀ {t : Tr}, Sml t → (sgn t.d.shown).length + 2000 ≤ 4000 * 2 ^ t.dep
  | .lf (.i n), h => by
    have : (sgn (Str.ofString (toString n))).length ≤ 1921 := text_len h
    have e : (Tr.lf (.i n)).d.shown = Str.ofString (toString n) := PyData.shown_int n
    rw [e]
    show _ ≤ 4000 * 1
    omega
  | .lf (.b true), _ => by decide +kernel
  | .lf (.b false), _ => by decide +kernel
  | .nd n y o, h => by
    have h1 := text_len h.1
    have h2 := Sml.len h.2.1
    have h3 := Sml.len h.2.2
    rw [shown_nd]
    show _ ≤ 4000 * 2 ^ (max y.dep o.dep + 1)
    simp only [List.length_cons, List.length_append, List.length_nil]
    have p1 : 2 ^ y.dep ≤ 2 ^ (max y.dep o.dep) := Nat.pow_le_pow_right (by decide) (by omega)
    have p2 : 2 ^ o.dep ≤ 2 ^ (max y.dep o.dep) := Nat.pow_le_pow_right (by decide) (by omega)
    rw [Nat.pow_succ]
    omega
theorem Sml.fits {t : Tr} (h : Sml t) (d : t.dep ≤ 12) : t.d.shown.length ≤ sizeLine := by
  have := Sml.len h
  rw [len_sgn]
  have p : 2 ^ t.dep ≤ 2 ^ 12 := Nat.pow_le_pow_right (by decide) d
  have e : sizeLine = 16777216 := rfl
  rw [e]
  omega
theorem shown_dec (t t' : Tr) : decide (V.str t.d.shown = V.str t'.d.shown) = decide (t = t') := by
  rw [Bool.eq_iff_iff, decide_eq_true_iff, decide_eq_true_iff]
  constructor
  · intro e; exact shown_inj (V.str.inj e)
  · rintro rfl; rfl
end Cor
set_option Elab.async false
set_option linter.all false
set_option maxRecDepth 100000
set_option maxHeartbeats 1000000
namespace Cor
open PySem PySem.Spec PyProof.Rows L2
def digS : Str := "0123456789"
def isIn (z : Str) (c : Nat) : Bool := decide (c ∈ z.cps.toList)
/-- a figure: the first sign by itself -/
def figB (x : Str) : Bool := (decide (1 ≤ x.length) && decide (x.length ≤ 20)) && (x.cps.toList.all (isIn digS) && (decide (x = "0") || !decide (x.cps.toList.head? = some 48)))
def figT (x : Str) : Option Int := if figB x = true then some ((NumText.digitsVal x.cps.toList : Nat) : Int) else none
def optV : Option Int → V
  | some n => .int n
  | none => .non
/-- a number: the text behind a minus -/
def tailS (x : Str) : Str := ⟨(x.cps.toList.drop 1).toArray⟩
def numT (x : Str) : Option Int := if x.cps.toList.head? = some 45 then (match figT (tailS x) with | some n => if n = 0 then none else some (-n) | none => none) else figT x
theorem len_cps (z : Str) : z.cps.toList.length = z.length := by rw [Array.length_toList]; rfl
theorem atI_zero {α : Type} {c : α} {r : List α} : atI (c :: r) 0 = some c := by
  unfold atI ixN
  simp
theorem cut_to (x : Str) (k : Nat) : cutS x none (some (k : Int)) = ⟨(x.cps.toList.take k).toArray⟩ := by
  have lc := len_cps x
  unfold cutS
  rw [HT.sIx_none, HT.sIx_nat, List.drop_zero, Nat.sub_zero, ← lc]
  congr 2
  rw [← List.take_take, List.take_length]
theorem cut_from (x : Str) (k : Nat) : cutS x (some (k : Int)) none = ⟨(x.cps.toList.drop k).toArray⟩ := by
  have lc := len_cps x
  unfold cutS
  rw [HT.sIx_none, HT.sIx_nat, ← lc]
  congr 2
  rcases Nat.le_total k x.cps.toList.length with h | h
  · rw [Nat.min_eq_left h, List.take_of_length_le (by rw [List.length_drop]; exact Nat.le_refl _)]
  · rw [Nat.min_eq_right h, Nat.sub_self, List.take_zero, List.drop_of_length_le h]
theorem first_minus (x : Str) : decide (V.str (cutS x none (some 1)) = V.str "-") = decide (x.cps.toList.head? = some 45) := by
  rw [show (some (1 : Int)) = some ((1 : Nat) : Int) from rfl, cut_to]
  have e : ("-" : Str) = ⟨[45].toArray⟩ := by decide +kernel
  rw [e]
  cases x.cps.toList with
  | nil => decide
  | cons c r =>
    show decide (V.str ⟨[c].toArray⟩ = V.str ⟨[45].toArray⟩) = decide (some c = some 45)
    by_cases h : c = 45
    · subst h
      rw [decide_eq_true rfl, decide_eq_true rfl]
    · rw [decide_eq_false (fun z => h (Option.some.inj z)), decide_eq_false]
      intro z
      have z1 := congrArg (fun y : Str => y.cps.toList) (V.str.inj z)
      exact h (List.cons.inj z1).1
theorem isIn_dig {c : Nat} (h : isIn digS c = true) : 48 ≤ c ∧ c ≤ 57 := by
  have h' := of_decide_eq_true h
  rw [show digS.cps.toList = [48, 49, 50, 51, 52, 53, 54, 55, 56, 57] from by decide +kernel] at h'
  simp only [List.mem_cons, List.not_mem_nil, or_false] at h'
  omega
theorem fig_int {x : Str} (h : figB x = true) : PySem.intText? x = some ((NumText.digitsVal x.cps.toList : Nat) : Int) ∧ x.length ≤ 640 := by
  unfold figB at h
  simp only [Bool.and_eq_true, decide_eq_true_eq] at h
  obtain ⟨⟨h1, h2⟩, h3, _⟩ := h
  refine ⟨PySem.intText_digits (fun c hc => isIn_dig (List.all_eq_true.mp h3 c hc)) (fun e => ?_) (by omega), by omega⟩
  have := len_cps x
  rw [e, List.length_nil] at this
  omega
theorem take_succ_cps {z : Str} {i c : Nat} (h : z.cps[i]? = some c) : z.cps.toList.take (i + 1) = z.cps.toList.take i ++ [c] := by
  rw [List.take_succ, Array.getElem?_toList, h]
  rfl
/-- [p(c) for c in z] -/
theorem lc_signs {z : Str} {p : Nat → Bool} {g : TG} {te : TE} {vs : List Nat} {σ : L2.St} {H1 : Hp} {D : Addr} {Qd : Hp → Prop} (nD : H1 D = none) (hz : z.length ≤ sizeLine)
    (hs : ∀ (c : Nat) (H : Hp), g (.str ⟨#[c]⟩) (wipe σ vs) H fun σ2 H2 => wipe σ2 vs = wipe σ vs ∧ te σ2 H2 fun y H4 => y = .bl (p c) ∧ H4 = H)
    (hm : ∀ {x : V} {σ : L2.St} {H : Hp} {R R' : L2.St → Hp → Prop}, (∀ σ' H', R σ' H' → R' σ' H') → g x σ H R → g x σ H R')
    (ht : ∀ {σ : L2.St} {H : Hp} {R R' : VK}, (∀ v H', R v H' → R' v H') → te σ H R → te σ H R')
    (hd : ∀ H, Same H1 H → H D = some (.lst ((z.cps.toList.map p).map V.bl)) → Qd H) :
    ∃ W : Nat → Nat → Hp → Prop, (∃ m, W 0 m (upd H1 D (.lst []))) ∧ ∀ i m H, W i m H →
      ((Its z).stop i H ∧ Qd H) ∨ ((Its z).go i H ∧ ∃ Nx : Hp → Prop, (∀ H', Nx H' → ∃ m', m' < m ∧ W (i + 1) m' H') ∧ ∀ x H', (Its z).yld i H x H' → g x (wipe σ vs) H' fun σ2 H2 => wipe σ2 vs = wipe σ vs ∧ tYes σ2 H2 fun b H3 =>
        if b = true then te σ2 H3 fun y H4 => ∃ acc, H4 D = some (.lst acc) ∧ acc.length < sizeLine ∧ Nx (upd H4 D (.lst (acc ++ [y]))) else Nx H3) := by
  refine lc_it (n := z.cps.size) walk_str (fun i H => Same H1 H ∧ H D = some (.lst (((z.cps.toList.take i).map p).map V.bl)) ) ⟨same_upd nD, upd_same⟩ (fun _ _ _ _ => True.intro) ?_ ?_
  · rintro i x H _ hi ⟨s1, e1⟩ ⟨rfl, c, hc, rfl⟩
    refine hm (fun σ' H' hw => ?_) (hs c _)
    refine ⟨hw.1, ?_⟩
    show te σ' H' _
    refine ht (fun v H4 hv => ?_) hw.2
    obtain ⟨rfl, rfl⟩ := hv
    refine ⟨_, e1, ?_, fun b o z' => ?_, ?_⟩
    · rw [List.length_map, List.length_map, List.length_take, len_cps]
      have : z.cps.size = z.length := rfl
      omega
    · rw [upd_ne (ne_of_none z' nD)]
      exact s1 b o z'
    · rw [upd_same, take_succ_cps hc, List.map_append, List.map_append]
      rfl
  · rintro H ⟨s1, e1⟩
    refine hd H s1 ?_
    rw [e1, show z.cps.size = z.cps.toList.length from (Array.length_toList).symm, List.take_length]
end Cor
set_option Elab.async false
set_option linter.all false
set_option maxRecDepth 100000
set_option maxHeartbeats 1000000
namespace Cor
open PySem PySem.Spec PyProof.Rows L2
def leafT (x : Str) : Option Lf := if x = "yes" then some (.b true) else if x = "no" then some (.b false) else (numT x).map Lf.i
def leafV (x : Str) : V := match leafT x with
  | some l => l.v
  | none => .non
def isOpen (x : Str) : Bool := decide (x.cps.toList.head? = some 40)
/-- f: how deep it may go on -/
def prs (ws : List Str) : Nat → Nat → Option (Tr × Nat)
  | 0, _ => none
  | f + 1, i => match ws[i]? with
    | none => none
    | some w => if isOpen w = true then (match figT (tailS w) with
        | none => none
        | some n => if n = 0 then none else if ws[i + 1]? = some ("?" : Str) then (match prs ws f (i + 2) with
            | none => none
            | some (h, j) => if ws[j]? = some (":" : Str) then (match prs ws f (j + 1) with
              | none => none
              | some (o, l) => if ws[l]? = some (")" : Str) then some (.nd n h o, l + 1) else none) else none) else none)
      else (leafT w).map fun l => (.lf l, i + 1)
theorem prs_bound {ws : List Str} : ∀ {f i : Nat} {t : Tr} {j : Nat}, prs ws f i = some (t, j) → i < j ∧ j ≤ ws.length ∧ t.dep < f
  | 0, i, t, j, h => by cases h
  | f + 1, i, t, j, h => by
    unfold prs at h
    cases e : ws[i]? with
    | none => rw [e] at h; cases h
    | some w =>
      have hi : i < ws.length := (List.getElem?_eq_some_iff.mp e).1
      rw [e] at h
      simp only at h
      by_cases ho : isOpen w = true
      · rw [if_pos ho] at h
        cases ef : figT (tailS w) with
        | none => rw [ef] at h; cases h
        | some n =>
          rw [ef] at h
          simp only at h
          by_cases hn : n = 0
          · rw [if_pos hn] at h; cases h
          rw [if_neg hn] at h
          by_cases hq : ws[i + 1]? = some ("?" : Str)
          · rw [if_pos hq] at h
            cases e1 : prs ws f (i + 2) with
            | none => rw [e1] at h; cases h
            | some p =>
              obtain ⟨y, j1⟩ := p
              rw [e1] at h
              simp only at h
              by_cases hc : ws[j1]? = some (":" : Str)
              · rw [if_pos hc] at h
                cases e2 : prs ws f (j1 + 1) with
                | none => rw [e2] at h; cases h
                | some p =>
                  obtain ⟨o, j2⟩ := p
                  rw [e2] at h
                  simp only at h
                  by_cases hd : ws[j2]? = some (")" : Str)
                  · rw [if_pos hd] at h
                    cases h
                    have b1 := prs_bound e1
                    have b2 := prs_bound e2
                    have b3 := (List.getElem?_eq_some_iff.mp hd).1
                    refine ⟨by omega, by omega, ?_⟩
                    show max y.dep o.dep + 1 < f + 1
                    omega
                  · rw [if_neg hd] at h; cases h
              · rw [if_neg hc] at h; cases h
          · rw [if_neg hq] at h; cases h
      · rw [if_neg ho] at h
        cases el : leafT w with
        | none => rw [el] at h; cases h
        | some l =>
          rw [el] at h
          cases h
          exact ⟨Nat.lt_succ_self _, hi, Nat.succ_pos _⟩
theorem first_open (x : Str) : decide (V.str (cutS x none (some 1)) = V.str "(") = isOpen x := by
  unfold isOpen
  rw [show (some (1 : Int)) = some ((1 : Nat) : Int) from rfl, cut_to]
  have e : ("(" : Str) = ⟨[40].toArray⟩ := by decide +kernel
  rw [e]
  cases x.cps.toList with
  | nil => decide
  | cons c r =>
    show decide (V.str ⟨[c].toArray⟩ = V.str ⟨[40].toArray⟩) = decide (some c = some 40)
    by_cases h : c = 40
    · subst h
      rw [decide_eq_true rfl, decide_eq_true rfl]
    · rw [decide_eq_false (fun z => h (Option.some.inj z)), decide_eq_false]
      intro z
      have := congrArg (fun y : Str => y.cps.toList) (V.str.inj z)
      simp at this
      exact h this
theorem cutV_one (xs : List V) (j : Nat) : cutV xs (some (j : Int)) (some ((j : Int) + 1)) = xs[j]?.toList := by
  unfold cutV
  rw [show ((j : Int) + 1) = ((j + 1 : Nat) : Int) from by omega, HT.sIx_nat, HT.sIx_nat]
  rcases Nat.lt_or_ge j xs.length with h | h
  · rw [Nat.min_eq_left (by omega), Nat.min_eq_left (by omega), Nat.add_sub_cancel_left, List.getElem?_eq_getElem h]
    rw [List.drop_eq_getElem_cons h]
    rfl
  · rw [Nat.min_eq_right (by omega), Nat.min_eq_right (by omega), Nat.sub_self, List.take_zero, List.getElem?_eq_none h]
    rfl
theorem cutV_ws (ws : List Str) (j : Nat) : cutV (ws.map V.str) (some (j : Int)) (some ((j : Int) + 1)) = ws[j]?.toList.map V.str := by
  rw [cutV_one, List.getElem?_map]
  cases ws[j]? <;> rfl
theorem dpAll_ws {K : PySem.W.Frag} {H : Hp} : ∀ l : List Str, DpAll K H (l.map V.str) (l.map PyData.str)
  | [] => .nil
  | x :: r => .cons (.str x) (dpAll_ws r)
theorem eqv_one (o : Option Str) (y : Str) : PyData.eqv (.list (o.toList.map PyData.str)) (.list [.str y]) = decide (o = some y) := by
  cases o with
  | none => rfl
  | some x =>
    show ((x == y) && true) = decide (some x = some y)
    rw [Bool.and_true, Bool.eq_iff_iff, beq_iff_eq, decide_eq_true_eq, Option.some.injEq]
theorem shaped_ws (l : List Str) (h : ∀ x ∈ l, PyData.canLay0 (.str x) = true) : SeqAt.shaped (.list (l.map PyData.str)) = true := by
  have h1 : ∀ l : List Str, (∀ x ∈ l, PyData.canLay0 (.str x) = true) → PyData.canLayAll0 (l.map PyData.str) = true := fun l => by
    induction l with
    | nil => exact fun _ => rfl
    | cons x r ih =>
      intro h
      show (PyData.canLay0 (.str x) && PyData.canLayAll0 (r.map PyData.str)) = true
      rw [h x List.mem_cons_self, ih fun y hy => h y (List.mem_cons_of_mem _ hy)]
      rfl
  have h2 : ∀ l : List Str, PyData.depthAll (l.map PyData.str) = 0 := fun l => by
    induction l with
    | nil => rfl
    | cons x r ih => exact (show max 0 (PyData.depthAll (r.map PyData.str)) = 0 by rw [ih]; rfl)
  unfold SeqAt.shaped
  show (PyData.canLayAll0 (l.map PyData.str) && decide (PyData.depthAll (l.map PyData.str) + 1 ≤ 64)) = true
  rw [h1 l h, h2]
  decide
end Cor
set_option Elab.async false
set_option linter.all false
set_option maxRecDepth 100000
set_option maxHeartbeats 1000000
namespace Law
open PySem PySem.Spec PyProof.Rows L2 Cor
def topS (i : Nat) : Stmt := PySem.Challenge.pw_corridors_k08_texts_of_worths.main.body.getD i (.Pass ⟨0, 0, 0, 0⟩)
abbrev sBox : Stmt := topS 33
abbrev sTake : Stmt := topS 34
theorem scBox : FnScope ["_law_script", "_law_k", "_law_own", "_law_cell", "_law_seed"] ["_law_script", "_law_k", "_law_own"] (defScope sBox) := ⟨rfl, rfl, rfl, by decide +kernel, rfl, by decide +kernel, by decide +kernel⟩
theorem scTake : FnScope ["_law_box_here", "_law_many", "_law_digit", "_law_raw_here", "_law_wide"] ["_law_box_here", "_law_many"] (defScope sTake) := ⟨rfl, rfl, rfl, by decide +kernel, rfl, by decide +kernel, by decide +kernel⟩
section
variable {P : Program} {w : World} {K : PySem.W.Frag} {mg : Str → Option Value} {base : Heap}
theorem ok_take {f : Addr} {fd : FuncData} (F : Fun K "_law_take" "_law_take" sTake f fd) (T : Glo mg) : FnOk P w K mg base CX0 1 f fd ["_law_box_here", "_law_many"] spTake := by
  refine F.ok scTake (fun vs H Q E h => ?_) (fun cdv A outer s H vs Q E hr h => ?_)
  · obtain ⟨p, m, rfl, _⟩ := h
    rfl
  · obtain ⟨p, m, rfl, ⟨b, s, c, hp, s0, s1⟩, m0, m1, k⟩ := h
    have hm : CDivW b m := wide_div m0 (by omega : m.natAbs < 2 ^ 90) (by decide) (by decide)
    refine ⟨_, (pss_cons (ps_if (pt_cmpR op_gt (pe_ix ix_list (pv 0) pe_int (fun _ _ => rfl)) pe_int (nomark _)) (pss_cons (ps_set (i := 2) scTake.nd rfl (Or.inl rfl) (pe_op op_mod (pe_ix ix_list (pv 0) pe_int (fun _ _ => rfl)) (pv 1)))
      (pss_cons (ps_asg (pe_op op_fdivW (pe_ix ix_list (pv 0) pe_int (fun _ _ => rfl)) (pv 1)) (pg_sub (pv 0) pe_int set_list))
      (pss_one (ps_ret (pv 2))))) pss_nil)
      (pss_cons (ps_asg (pe_op op_add (pe_ix ix_list (pv 0) pe_int (fun _ _ => rfl)) pe_int) (pg_sub (pv 0) pe_int set_list))
      (pss_cons (ps_set (i := 3) scTake.nd rfl (Or.inl rfl) (pe_op op_mod (pe_op op_mul (pe_op op_add (pe_ix ix_list (pv 0) pe_int (fun _ _ => rfl)) (pe_op op_mul pe_int (pe_ix ix_list (pv 0) pe_int (fun _ _ => rfl)))) pe_int) pe_int))
      (pss_cons (ps_asg (pe_op op_add (pe_op op_mod (pe_op op_add (pe_op op_mul (pv 3) pe_int) pe_int) pe_int) pe_int) (pg_sub (pv 0) pe_int set_list))
      (pss_cons (ps_if (pt_cmpR op_lt (pv 1) (pe_op op_pow pe_int pe_int) (nomark _)) (pss_one (ps_ret (pe_op op_mod (pe_op op_fdiv (pe_op op_add (pe_op op_mul (pv 3) pe_int) (pe_ix ix_list (pv 0) pe_int (fun _ _ => rfl))) pe_int) (pv 1)))) pss_nil)
      (pss_cons (ps_set (i := 4) scTake.nd rfl (Or.inl rfl) (pe_op op_mul (pe_op op_add (pe_op op_mul (pv 3) pe_int) (pe_ix ix_list (pv 0) pe_int (fun _ _ => rfl))) (pe_op op_pow pe_int pe_int)))
      (pss_one (ps_ret (pe_op op_mod (pe_op op_add (pe_op op_add (pv 4) (pe_op op_mul (pe_op op_pow (pe_ix ix_list (pv 0) pe_int (fun _ _ => rfl)) pe_int) pe_int)) (pv 3)) (pv 1)))))))))), ?_⟩
    refine ⟨_, rfl, p, _, _, _, rfl, rfl, SqL.of hp, rfl, _, _, rfl, rfl, _, rfl, ?_⟩
    refine ite2 (fun hb => ?_) (fun hb => ?_)
    · refine ⟨_, rfl, p, _, _, _, rfl, rfl, SqL.of hp, rfl, _, rfl, _, _, rfl, rfl, m0, ?_⟩
      refine ⟨_, rfl, p, _, _, _, rfl, rfl, SqL.of hp, rfl, _, rfl, _, _, rfl, rfl, hm, _, rfl, p, _, _, _, rfl, rfl, hp, rfl, ?_⟩
      refine ⟨_, rfl, ?_⟩
      exact k _ s c _ s0 s1 (Int.emod_nonneg _ (by omega)) (Int.emod_lt_of_pos _ m0)
    · refine ⟨_, rfl, p, _, _, _, rfl, rfl, SqL.of hp, rfl, _, _, rfl, rfl, _, rfl, p, _, _, _, rfl, rfl, hp, rfl, ?_⟩
      have h1 : (upd H p (.lst [.int b, .int s, .int (c + 1)])) p = some (.lst [.int b, .int s, .int (c + 1)]) := upd_same
      refine ⟨_, rfl, p, _, _, _, rfl, rfl, SqL.of h1, rfl, _, rfl, p, _, _, _, rfl, rfl, SqL.of h1, rfl, _, _, rfl, rfl, .inl ⟨by decide, by decide⟩, _, _, rfl, rfl, _, _, rfl, rfl, .inr ⟨by decide, by decide⟩, _, _, rfl, rfl, (by show (0 : Int) < 2147483647; decide), ?_⟩
      dsimp only
      generalize hraw : (s + 104729 * (c + 1)) * 69623 % 2147483647 = raw
      have r0 : 0 ≤ raw := by omega
      have r1 : raw < 2147483647 := by omega
      refine ⟨_, rfl, _, _, rfl, rfl, .inr ⟨by decide, by decide⟩, _, _, rfl, rfl, _, _, rfl, rfl, (by show (0 : Int) < 2147483629; decide), _, _, rfl, rfl, _, rfl, p, _, _, _, rfl, rfl, h1, rfl, ?_⟩
      dsimp only
      generalize hs2 : (raw * 48271 + 30103) % 2147483629 + 1 = s2
      have s20 : 0 ≤ s2 := by omega
      have s21 : s2 < 4294967296 := by omega
      have e2 : upd (upd H p (.lst [.int b, .int s, .int (c + 1)])) p (.lst [.int b, .int s2, .int (c + 1)]) = upd H p (.lst [.int b, .int s2, .int (c + 1)]) := upd_upd
      have h2 : (upd (upd H p (.lst [.int b, .int s, .int (c + 1)])) p (.lst [.int b, .int s2, .int (c + 1)])) p = some (.lst [.int b, .int s2, .int (c + 1)]) := upd_same
      have kk := fun r (r0 : 0 ≤ r) (r1 : r < m) => k b s2 (c + 1) r s20 s21 r0 r1
      rw [← e2] at kk
      refine ⟨_, rfl, _, _, rfl, rfl, ⟨by decide, by decide, by decide⟩, _, _, rfl, rfl, _, rfl, ?_⟩
      refine ite2 (fun hb => ?_) (fun hb => ?_)
      · refine ⟨_, rfl, _, _, rfl, rfl, .inr ⟨by decide, by decide⟩, _, rfl, p, _, _, _, rfl, rfl, SqL.of h2, rfl, _, _, rfl, rfl, _, _, rfl, rfl, ⟨by decide, by decide⟩, _, rfl, _, _, rfl, rfl, m0, ?_⟩
        exact kk _ (Int.emod_nonneg _ (by omega)) (Int.emod_lt_of_pos _ m0)
      · refine ⟨_, rfl, _, _, rfl, rfl, .inr ⟨by decide, by decide⟩, _, rfl, p, _, _, _, rfl, rfl, SqL.of h2, rfl, _, _, rfl, rfl, _, _, rfl, rfl, ⟨by decide, by decide, by decide⟩, _, _, rfl, rfl, .inl ⟨by omega, by omega⟩, ?_⟩
        refine ⟨_, rfl, _, rfl, p, _, _, _, rfl, rfl, SqL.of h2, rfl, _, _, rfl, rfl, ⟨by decide, by decide, by omega⟩, _, _, rfl, rfl, .inr ⟨by decide, by decide⟩, _, _, rfl, rfl, _, rfl, _, _, rfl, rfl, _, rfl, _, _, rfl, rfl, m0, ?_⟩
        exact kk _ (Int.emod_nonneg _ (by omega)) (Int.emod_lt_of_pos _ m0)
theorem atI_two {x y : V} (b : Bool) : atI [x, y] (if b = true then 1 else 0) = some (if b = true then y else x) := by cases b <;> rfl
theorem atI_ints {ns : List Int} {k : Int} (h : k < (ns.length : Int)) (h0 : 0 ≤ k) : atI (ns.map V.int) k = some (V.int (ns.getD k.toNat 0)) := by
  have hk : k.toNat < ns.length := by omega
  unfold atI ixN
  rw [List.length_map, if_pos h0, if_pos h]
  show (ns.map V.int)[k.toNat]? = _
  rw [List.getElem?_map, List.getElem?_eq_getElem hk]
  show some (V.int _) = _
  rw [List.getD_eq_getElem?_getD, List.getElem?_eq_getElem hk]
  rfl
theorem ok_box {f : Addr} {fd : FuncData} (F : Fun K "_law_box" "_law_box" sBox f fd) (T : Glo mg) : FnOk P w K mg base CX0 1 f fd ["_law_script", "_law_k", "_law_own"] (spBox K) := by
  refine F.ok scBox (fun vs H Q E h => ?_) (fun cdv A outer s H vs Q E hr h => ?_)
  · obtain ⟨a, ns, k, own, rfl, _⟩ := h
    rfl
  · obtain ⟨a, ns, k, own, rfl, hS, hl, k0, k1, o0, o1, q⟩ := h
    refine ⟨_, (pss_cons (ps_set (i := 3) scBox.nd rfl (Or.inl rfl) (pe_op op_add (pe_op op_add (pe_op op_mul pe_int (pv 1)) (pe_op op_mul pe_int (pv 2))) pe_int))
      (pss_cut (ps_if (pt_cmpR op_lt (pv 1) (pe_callB call_len_seq (by rfl) T.len PySem.boot_len (pa_cons (pv 0) pa_nil)) (nomark _)) (pss_one (ps_set (i := 3) scBox.nd rfl (Or.inl rfl) (pe_callB call_abs (by rfl) T.abs (by decide +kernel) (pa_cons (pe_ix ix_list (pv 0) (pv 1) (fun _ _ => rfl)) pa_nil)))) (pss_one (ps_if (pt_cmpR op_gt (pe_callB call_len_seq (by rfl) T.len PySem.boot_len (pa_cons (pv 0) pa_nil)) pe_int (nomark _)) (pss_one (ps_set (i := 3) scBox.nd rfl (Or.inl rfl) (pe_op op_add (pv 3) (pe_op op_mul (pe_op op_mod (pe_callB call_abs (by rfl) T.abs (by decide +kernel) (pa_cons (pe_ix ix_list (pv 0) (pe_op op_mod (pv 1) (pe_callB call_len_seq (by rfl) T.len PySem.boot_len (pa_cons (pv 0) pa_nil))) (fun _ _ => rfl)) pa_nil)) pe_int) pe_int)))) pss_nil)))
      (pss_cons (ps_set (i := 4) scBox.nd rfl (Or.inl rfl) (pe_op op_add (pe_op op_mod (pe_op op_add (pe_op op_mul (pe_op op_mod (pv 3) pe_int) pe_int) (pe_op op_mul pe_int (pe_op op_add (pv 1) (pe_op op_mul pe_int (pv 2))))) pe_int) pe_int))
      (pss_one (ps_ret (pe_lst (pa_cons (pe_ix ix_list (pe_lst (pa_cons pe_int (pa_cons (pv 3) pa_nil))) (pe_callTy call_int1 (by rfl) T.int (by decide +kernel) (pa_cons (pe_cmpR op_ge (pv 3) (pe_op op_pow pe_int pe_int) (nomark _)) pa_nil)) (fun _ _ => rfl)) (pa_cons (pv 4) (pa_cons pe_int pa_nil))))))))), ?_⟩
    refine ⟨_, rfl, _, _, rfl, rfl, .inl ⟨by decide, by decide⟩, _, rfl, _, _, rfl, rfl, .inl ⟨by decide, by decide⟩, _, _, rfl, rfl, _, _, rfl, rfl, ?_⟩
    refine ⟨fun σ' H' => ∃ cell : Int, σ' = [some (.ref a), some (.int k), some (.int own), some (.int cell), none] ∧ H' = H, ?_, ?_⟩
    · refine ⟨_, rfl, _, rfl, a, _, rfl, .inl hS, _, _, rfl, rfl, _, rfl, ?_⟩
      refine ite2 (fun hb => ?_) (fun hb => ?_)
      · have hk : k < (ns.length : Int) := by
          have z := of_decide_eq_true hb
          rw [List.length_map] at z
          exact z
        refine ⟨_, rfl, _, rfl, a, _, _, _, rfl, rfl, hS, (atI_ints hk k0), _, rfl, _, rfl, rfl⟩
      · refine ⟨_, rfl, a, _, rfl, .inl hS, _, _, rfl, rfl, _, rfl, ?_⟩
        refine ite2 (fun hc => ?_) (fun hc => ?_)
        · have hn : (0 : Int) < (ns.length : Int) := by
            have z := of_decide_eq_true hc
            rw [List.length_map] at z
            exact z
          refine ⟨_, rfl, _, rfl, _, rfl, _, rfl, a, _, rfl, .inl hS, _, _, rfl, rfl, (by rw [List.length_map]; exact hn), a, _, _, _, rfl, rfl, hS, (atI_ints (by rw [List.length_map]; exact Int.emod_lt_of_pos _ hn) (Int.emod_nonneg _ (by rw [List.length_map]; omega))), _, rfl, _, _, rfl, rfl, (by show (0 : Int) < 2147483629; decide), _, _, rfl, rfl, .inr ⟨by decide, by decide⟩, _, _, rfl, rfl, _, rfl, rfl⟩
        · exact ⟨_, rfl, rfl⟩
    · rintro σ' H' ⟨cell, rfl, rfl⟩
      refine ⟨_, rfl, _, _, rfl, rfl, (by show (0 : Int) < 2147483629; decide), _, _, rfl, rfl, .inr ⟨by decide, by decide⟩, _, rfl, _, rfl, _, _, rfl, rfl, .inl ⟨by decide, by decide⟩, _, _, rfl, rfl, _, _, rfl, rfl, .inl ⟨by decide, by decide⟩, _, _, rfl, rfl, _, _, rfl, rfl, (by show (0 : Int) < 2147483629; decide), _, _, rfl, rfl, ?_⟩
      refine ⟨_, rfl, (by show 2 ≤ sizeLine; decide), fun p0 n0 => ?_⟩
      refine ⟨_, rfl, _, _, rfl, rfl, ⟨by decide, by decide, by decide⟩, _, _, rfl, rfl, .inr ⟨_, rfl, ?_⟩⟩
      refine ⟨p0, _, _, _, rfl, rfl, SqL.of upd_same, atI_two _, _, rfl, (by show 3 ≤ sizeLine; decide), fun p1 n1 => ?_⟩
      have n10 : p1 ≠ p0 := fun z => by rw [z, upd_same] at n1; cases n1
      have n1' : H' p1 = none := by rw [upd_ne n10] at n1; exact n1
      dsimp only
      generalize hs2 : (cell % 2147483629 * 48271 + 40692 * (k + 11 * own)) % 2147483629 + 1 = s2
      have s20 : 0 ≤ s2 := by omega
      have s21 : s2 < 4294967296 := by omega
      have hv : ∃ b : Int, (if (decide (10 ^ (Int.toNat 18) ≤ cell)) = true then V.int cell else V.int 0) = V.int b := by
        cases decide (10 ^ (Int.toNat 18) ≤ cell)
        · exact ⟨0, rfl⟩
        · exact ⟨cell, rfl⟩
      obtain ⟨b, hb⟩ := hv
      refine q _ p1 (fun x o e => ?_) n1' ⟨b, s2, 0, by rw [← hb]; exact upd_same, s20, s21⟩
      rw [upd_ne (ne_of_none e n1'), upd_ne (ne_of_none e n0)]
      exact e
end
end Law
set_option Elab.async false
set_option linter.all false
set_option maxRecDepth 100000
set_option maxHeartbeats 1000000
namespace Law
open PySem PySem.Spec PyProof.Rows L2 Cor
/-- the names of the module words -/
structure GloP (K : PySem.W.Frag) (mg : Str → Option Value) : Prop extends Glo mg where
  all : mg "all" = none
  str : mg "str" = none
  tuple : mg "tuple" = none
  sorted : mg "sorted" = none
  enumerate : mg "enumerate" = none
  repr : mg "repr" = none
  list : mg "list" = none
  isinstance : mg "isinstance" = none
  digits : ∃ u, mg "DIGITS" = some u ∧ RelV (.str digS) u
  lfig : ∃ u, mg "LONGEST_FIGURE" = some u ∧ RelV (.int 20) u
abbrev sIsFig : Stmt := topS 10
theorem scIsFig : FnScope ["text", "sign"] ["text"] (defScope sIsFig) := ⟨rfl, rfl, rfl, by decide +kernel, rfl, by decide +kernel, by decide +kernel⟩
abbrev sFigOf : Stmt := topS 11
theorem scFigOf : FnScope ["text"] ["text"] (defScope sFigOf) := ⟨rfl, rfl, rfl, by decide +kernel, rfl, by decide +kernel, by decide +kernel⟩
abbrev sNumOf : Stmt := topS 12
theorem scNumOf : FnScope ["text", "found"] ["text"] (defScope sNumOf) := ⟨rfl, rfl, rfl, by decide +kernel, rfl, by decide +kernel, by decide +kernel⟩
def spIsFig : Sp := fun vs H Q _ => ∃ x : Str, vs = [.str x] ∧ x.length ≤ 14000000 ∧ ∀ H', Same H H' → Q (.bl (figB x)) H'
def spFigOf : Sp := fun vs H Q _ => ∃ x : Str, vs = [.str x] ∧ x.length ≤ 14000000 ∧ ∀ H', Same H H' → Q (optV (figT x)) H'
def spNumOf : Sp := fun vs H Q _ => ∃ x : Str, vs = [.str x] ∧ x.length ≤ 14000000 ∧ ∀ H', Same H H' → Q (optV (numT x)) H'
section
variable {P : Program} {w : World} {K : PySem.W.Frag} {mg : Str → Option Value} {base : Heap}
theorem ok_isFig {f : Addr} {fd : FuncData} (F : Fun K "is_figure" "is_figure" sIsFig f fd) (T : GloP K mg) : FnOk P w K mg base CX0 1 f fd ["text"] spIsFig := by
  refine F.ok scIsFig (fun vs H Q E h => ?_) (fun cdv A outer s H vs Q E hr h => ?_)
  · obtain ⟨x, rfl, _⟩ := h
    rfl
  · obtain ⟨x, rfl, hl, q⟩ := h
    obtain ⟨uL, mL, rL⟩ := T.digits
    obtain ⟨uN, mN, rN⟩ := T.lfig
    refine ⟨_, (pss_cons (ps_if (PW.pt (pw_or (pt_not (pt_chain op_le op_le pe_int (pe_callB call_len (by rfl) T.len PySem.boot_len (pa_cons (pv 0) pa_nil)) (pe_glob (by rfl) mN rN))) (pw_or1 (pt_not (pt_val (pe_callB (cr_all rfl) (by rfl) T.all (by decide +kernel) (pa_cons (pe_lc (own := [("sign", 1)]) (g := gName 1) (by rfl) scIsFig.nd (pi_str (pv 0)) (blkOk_by (own := [("sign", 1)]) (N := ["text", "sign"]) (sc := defScope sIsFig) (by decide +kernel)) (fun _ _ _ _ _ => (pg_name (i := 1) scIsFig.nd rfl (Or.inl rfl))) (fun _ _ _ _ _ => pts_nil) (fun _ _ _ _ _ => (pe_cmpR op_in_sign (pv 1) (pe_glob (by rfl) mL rL) (by rfl)))) pa_nil))))))) (pss_one (ps_ret pe_bl)) pss_nil)
      (pss_one (ps_ret (pe_or (pe_cmpR op_eq (pv 0) pe_str (nomark _)) (pe_one (pe_cmpR op_ne (pe_ix ix_str (pv 0) pe_int (fun _ _ => rfl)) pe_str (nomark _))))))), ?_⟩
    have hz : x.length ≤ sizeLine := Nat.le_trans hl (by decide)
    have ret : ∀ {b : Bool}, figB x = b → ∀ H', Same H H' → Q (.bl b) H' := fun e H' s => e ▸ q H' s
    refine ⟨_, rfl, .str x, x.length, rfl, ⟨hz, rfl⟩, _, _, rfl, rfl, _, rfl, ?_⟩
    refine ite2 (fun h1 => ?_) (fun h1 => ?_)
    · refine ⟨_, _, rfl, rfl, _, rfl, ?_⟩
      have g1 : 1 ≤ x.length := by have := of_decide_eq_true h1; omega
      refine ite2 (fun h2 => ?_) (fun h2 => ?_)
      · refine iteT (ret ?_ H fun _ _ z => z)
        have g2 : ¬ x.length ≤ 20 := by
          rw [Bool.not_eq_true'] at h2
          have := of_decide_eq_false h2
          omega
        unfold figB
        rw [decide_eq_false g2, Bool.and_false, Bool.false_and]
      · have g2 : x.length ≤ 20 := by
          have h2' : decide (((x.length : Nat) : Int) ≤ 20) = true := by
            cases hd : decide (((x.length : Nat) : Int) ≤ 20) with
            | true => rfl
            | false => rw [hd] at h2; exact absurd rfl h2
          have := of_decide_eq_true h2'
          omega
        refine ⟨_, rfl, x, rfl, fun D nD => lc_signs (p := isIn digS) nD hz (fun c H' => ⟨rfl, _, rfl, c, digS, rfl, rfl, rfl, rfl⟩) (fun h g => h _ _ g) ?_ (fun H' s1 e1 => ?_)⟩
        · rintro σ H' R R' hR ⟨v, e, c, z, e1, e2, q⟩
          exact ⟨v, e, c, z, e1, e2, hR _ _ q⟩
        refine ⟨D, _, rfl, SqL.of e1, _, rfl, ?_⟩
        have ea : (List.map (isIn digS) x.cps.toList).all id = x.cps.toList.all (isIn digS) := by rw [List.all_map]; rfl
        rw [ea]
        refine ite2 (fun h3 => ?_) (fun h3 => ?_)
        · refine ret ?_ H' s1
          have h3' : x.cps.toList.all (isIn digS) = false := by rw [Bool.not_eq_true'] at h3; exact h3
          unfold figB
          rw [h3', Bool.false_and, Bool.and_false]
        · have h3' : x.cps.toList.all (isIn digS) = true := by
            cases hd : x.cps.toList.all (isIn digS) with
            | true => rfl
            | false => rw [hd] at h3; exact absurd rfl h3
          refine ⟨_, rfl, rfl, _, rfl, ?_⟩
          have base0 : figB x = (decide (x = "0") || !decide (x.cps.toList.head? = some 48)) := by
            unfold figB
            rw [h3', decide_eq_true g1, decide_eq_true g2]
            rfl
          refine ite2 (fun h4 => ?_) (fun h4 => ?_)
          · have e4 : x = "0" := V.str.inj (of_decide_eq_true h4)
            exact ret (by rw [base0, decide_eq_true e4]; rfl) H' s1
          · have e4 : ¬ x = "0" := fun z => h4 (decide_eq_true (by rw [z]))
            have lc := len_cps x
            cases hx : x.cps.toList with
            | nil => rw [hx] at lc; exact absurd lc (by show ¬ 0 = x.length; omega)
            | cons c r =>
              refine ⟨_, rfl, x, 0, c, rfl, rfl, hz, by rw [hx]; exact atI_zero, rfl, ret ?_ H' s1⟩
              rw [base0, decide_eq_false e4, hx, Bool.false_or]
              refine congrArg (!·) ?_
              show decide (some c = some 48) = decide (V.str ⟨#[c]⟩ = V.str "0")
              by_cases hc : c = 48
              · subst hc
                rw [decide_eq_true rfl, decide_eq_true (by decide +kernel)]
              · rw [decide_eq_false (fun z => hc (Option.some.inj z)), decide_eq_false]
                intro z
                have z2 : (⟨#[c]⟩ : Str).cps.toList = ("0" : Str).cps.toList := congrArg (fun y : Str => y.cps.toList) (V.str.inj z)
                rw [show ("0" : Str).cps.toList = [48] from by decide +kernel] at z2
                exact hc (List.cons.inj z2).1
    · refine ⟨_, rfl, iteT (ret ?_ H fun _ _ z => z)⟩
      have g1 : ¬ 1 ≤ x.length := fun z => h1 (decide_eq_true (by omega))
      unfold figB
      rw [decide_eq_false g1, Bool.false_and, Bool.false_and]
theorem ok_figOf {f : Addr} {fd : FuncData} (F : Fun K "figure_of" "figure_of" sFigOf f fd) (T : GloP K mg) (di : Df P w K mg base "is_figure" 1 ["text"] spIsFig) : FnOk P w K mg base CX0 2 f fd ["text"] spFigOf := by
  refine F.ok scFigOf (k := 1) (fun vs H Q E h => ?_) (fun cdv A outer s H vs Q E hr h => ?_)
  · obtain ⟨x, rfl, _⟩ := h
    rfl
  · obtain ⟨x, rfl, hl, q⟩ := h
    refine ⟨_, (pss_one (ps_ret (pe_ifExp (pt_val (pe_df (E := E0) di hr (by rfl) (pa_cons (pv 0) pa_nil))) (pe_callTy call_int_str (by rfl) T.int (by decide +kernel) (pa_cons (pv 0) pa_nil)) pe_non))), ?_⟩
    refine ⟨_, rfl, x, rfl, hl, fun H' s1 => ⟨_, rfl, ?_⟩⟩
    refine ite2 (fun hb => ?_) (fun hb => ?_)
    · obtain ⟨h1, h2⟩ := fig_int hb
      refine ⟨_, rfl, x, _, rfl, h1, h2, ?_⟩
      have z := q H' s1
      unfold figT at z
      rw [if_pos hb] at z
      exact z
    · have z := q H' s1
      unfold figT at z
      rw [if_neg hb] at z
      exact z
theorem ok_numOf {f : Addr} {fd : FuncData} (F : Fun K "number_of" "number_of" sNumOf f fd) (T : GloP K mg) (di : Df P w K mg base "figure_of" 2 ["text"] spFigOf) : FnOk P w K mg base CX0 3 f fd ["text"] spNumOf := by
  refine F.ok scNumOf (k := 2) (fun vs H Q E h => ?_) (fun cdv A outer s H vs Q E hr h => ?_)
  · obtain ⟨x, rfl, _⟩ := h
    rfl
  · obtain ⟨x, rfl, hl, q⟩ := h
    refine ⟨_, (pss_cons (ps_if (pt_cmpR op_ne (pe_slice sl_str (pv 0) po_none (po_some pe_int)) pe_str (nomark _)) (pss_one (ps_ret (pe_df (E := E0) di hr (by rfl) (pa_cons (pv 0) pa_nil)))) pss_nil)
      (pss_cons (ps_set (i := 1) scNumOf.nd rfl (Or.inl rfl) (pe_df (E := E0) di hr (by rfl) (pa_cons (pe_slice sl_str (pv 0) (po_some pe_int) po_none) pa_nil)))
      (pss_one (ps_ret (pe_ifExp (pt_truth (pv 1) (by intro _; rfl)) (pe_un un_neg (pv 1)) pe_non))))), ?_⟩
    have hz : x.length ≤ sizeLine := Nat.le_trans hl (by decide)
    refine ⟨_, rfl, _, rfl, x, rfl, hz, rfl, _, rfl, ?_⟩
    rw [first_minus]
    refine ite2 (fun hb => ?_) (fun hb => ?_)
    · have h1 : ¬ x.cps.toList.head? = some 45 := by
        rw [Bool.not_eq_true'] at hb
        exact of_decide_eq_false hb
      refine ⟨_, rfl, x, rfl, hl, fun H' s1 => ?_⟩
      have z := q H' s1
      unfold numT at z
      rw [if_neg h1] at z
      exact z
    · have h1 : x.cps.toList.head? = some 45 := by
        cases hd : decide (x.cps.toList.head? = some 45) with
        | true => exact of_decide_eq_true hd
        | false => rw [hd] at hb; exact absurd rfl hb
      refine ⟨_, rfl, _, rfl, x, rfl, hz, _, rfl, ?_, fun H' s1 => ?_⟩
      · rw [show (some (1 : Int)) = some ((1 : Nat) : Int) from rfl, cut_from, SX.S_len, List.length_drop, len_cps]
        omega
      rw [show cutS x (some 1) none = tailS x from cut_from x 1]
      have z := q H' s1
      unfold numT at z
      rw [if_pos h1] at z
      cases hf : figT (tailS x) with
      | none =>
        rw [hf] at z
        exact ⟨_, rfl, false, rfl, z⟩
      | some n =>
        rw [hf] at z
        refine ⟨_, rfl, (n != 0), rfl, ?_⟩
        refine ite2 (fun hn => ?_) (fun hn => ?_)
        · have n0 : n ≠ 0 := by simpa using hn
          have z : Q (optV (if n = 0 then none else some (-n))) H' := z
          rw [if_neg n0] at z
          exact ⟨_, rfl, n, rfl, z⟩
        · have n0 : n = 0 := by simpa using hn
          have z : Q (optV (if n = 0 then none else some (-n))) H' := z
          rw [if_pos n0] at z
          exact z
end
end Law
set_option Elab.async false
set_option linter.all false
set_option maxRecDepth 100000
set_option maxHeartbeats 1000000
namespace Cor
open PySem PySem.Spec PyProof.Rows L2
theorem foldl_min (n : Int) : ∀ ns : List Int, ns.foldl min n ∈ n :: ns ∧ ∀ a ∈ n :: ns, ns.foldl min n ≤ a
  | [] => ⟨List.mem_cons_self, fun a h => by rcases List.mem_cons.mp h with e | e; (· rw [e]; exact Int.le_refl _); (· cases e)⟩
  | m :: ns => by
    obtain ⟨h1, h2⟩ := foldl_min (min n m) ns
    refine ⟨?_, fun a h => ?_⟩
    · show (ns.foldl min (min n m)) ∈ _
      rcases List.mem_cons.mp h1 with e | e
      · rw [e]
        rcases Int.le_total n m with z | z
        · rw [Int.min_eq_left z]; exact List.mem_cons_self
        · rw [Int.min_eq_right z]; exact List.mem_cons_of_mem _ List.mem_cons_self
      · exact List.mem_cons_of_mem _ (List.mem_cons_of_mem _ e)
    · show (ns.foldl min (min n m)) ≤ a
      have hm := h2 _ List.mem_cons_self
      rcases List.mem_cons.mp h with e | e
      · omega
      · rcases List.mem_cons.mp e with e | e
        · omega
        · exact h2 a (List.mem_cons_of_mem _ e)
theorem ints_read {h : Heap} : ∀ {its : List Value} {ns : List Int}, IntsAre its ns → ReadsAll h its (ns.map .int) []
  | [], [], _ => .nil
  | v :: its, n :: ns, hi => by
    obtain ⟨⟨t, rfl⟩, hr⟩ : (∃ t, v = .int n t) ∧ IntsAre its ns := by
      cases hi with
      | cons n t r => exact ⟨⟨_, rfl⟩, r⟩
    exact ReadsAll.cons (.int n t) (ints_read hr)
  | [], _ :: _, hi => by cases hi
  | _ :: _, [], hi => by cases hi
theorem ints_alike (ns : List Int) : PySem.W.AlikeAll (ns.map .int) := by
  refine ⟨fun x hx y hy => ?_, fun x hx => ?_⟩
  · obtain ⟨i, _, rfl⟩ := List.mem_map.mp hx
    obtain ⟨j, _, rfl⟩ := List.mem_map.mp hy
    rfl
  · obtain ⟨i, _, rfl⟩ := List.mem_map.mp hx
    exact fun z => by cases z
theorem ints_depth : ∀ ns : List Int, PyData.depthAll (ns.map .int) ≤ 1
  | [] => by decide
  | n :: ns => by
    show max (PyData.depth (.int n)) (PyData.depthAll (ns.map .int)) ≤ 1
    have := ints_depth ns
    have : PyData.depth (.int n) ≤ 1 := by unfold PyData.depth; omega
    omega
def rMinD (K : PySem.W.Frag) : List V → List V → Hp → VK → Prop := fun vs zs H Q => ∃ (a : Addr) (ns : List Int) (d : Int), vs = [V.ref a] ∧ zs = [V.int d] ∧ SqL K H a (ns.map V.int) ∧
  (ns = [] → Q (.int d) H) ∧ ∀ m, m ∈ ns → (∀ y, y ∈ ns → m ≤ y) → Q (.int m) H
theorem cr_minD {X : Cx} (hc : X.calm = true) (hu : X.A.units + 64 < cLine) : CallRK X (.builtin "min") ["default"] (rMinD X.K) := by
  intro pins s σ H vs zs us ws Q I r rz h
  obtain ⟨a, ns, d, rfl, rfl, hs, q0, q⟩ := h
  obtain ⟨its, rv, hl, _⟩ := I.list hs
  rw [Vals.ref1 r]
  obtain ⟨t, rfl⟩ : ∃ t, ws = [Value.int d t] := by
    cases rz with
    | cons r z => cases z; obtain ⟨t, rfl⟩ := r; exact ⟨t, rfl⟩
  have dp := ints_depth ns
  refine PySem.W.min_list_default (I.ok.hd hc) hl.isList (xs := ns.map .int) (as := []) (ints_read (by simpa using rv.ints)) (ints_alike ns) (by omega) (fun e h' tk hk => ?_) fun y ys i v h' tk bs e hi rd hk => ?_
  · exact ⟨.int _, H, I.kept hk, ⟨_, rfl⟩, q0 (List.map_eq_nil_iff.mp e)⟩
  · cases ns with
    | nil => cases e
    | cons n ns =>
      obtain ⟨rfl, rfl⟩ := List.cons.inj e
      obtain ⟨h1, h2⟩ := foldl_min n ns
      rw [PySem.W.minD_ints] at rd
      cases rd
      exact ⟨.int _, H, I.kept hk, ⟨_, rfl⟩, q _ h1 h2⟩
end Cor
set_option Elab.async false
set_option linter.all false
set_option maxRecDepth 100000
set_option maxHeartbeats 1000000
namespace Cor
open PySem PySem.Spec PyProof.Rows L2
structure PMs (X : Cx) (cs : List MatchCase) (t : Str → TS) : Prop where
  run : ∀ (first : Bool) (pins : List (Addr × Obj)) (s : Shared) (σ : L2.St) (H : Hp) (D : Ends) (x : Str) (u : Value), Inv X pins σ H s → RelV (.str x) u → t x D σ H → wpAny (model X.prog X.w) X.A (matchCases cs X.env u first) (SP X pins D) X.xe s
def tCaseNil : Str → TS := fun _ D σ H => D.nx σ H
def tCase (y : Str) (t : TS) (r : Str → TS) : Str → TS := fun x D σ H => ∃ c : Bool, decide (x = y) = c ∧ if c = true then t D σ H else r x D σ H
def tMatch (te : TE) (t : Str → TS) : TS := fun D σ H => te σ H fun v H1 => ∃ x, v = .str x ∧ t x D σ H1
section
variable {X : Cx}
theorem pms_nil : PMs X [] tCaseNil := ⟨fun _ pins s σ H D x u I _ h => wpAny_matchCases_nil ⟨σ, H, I, h⟩⟩
theorem pms_cons {y : Str} {k : Nat} {p0 p1 : Pos} {body : List Stmt} {rest : List MatchCase} {t : TS} {r : Str → TS} (hb : PSs X body t) (hr : PMs X rest r) :
    PMs X (⟨.MatchValue (.Constant (.str y) k p0) p1, none, body⟩ :: rest) (tCase y t r) := by
  refine ⟨fun first pins s σ H D x u I ru h => ?_⟩
  obtain ⟨c, hc, h⟩ := h
  refine wpAny_matchCases_cons (wpAny_matchPattern_Value ?_)
  refine thn ((pe_str (X := X) (x := y) (j := k) (pos := p0)).run pins s σ H (fun v H1 => v = .str y ∧ H1 = H) I ⟨rfl, rfl⟩) fun yv s1 z => ?_
  obtain ⟨v, H1, I1, rv, rfl, rfl⟩ := z
  refine thn (op_eq (X := X) pins s1 σ H1 (.str x) (.str y) u yv (fun v H2 => v = .bl c ∧ H2 = H1) I1 ru rv ⟨rfl, by
    rw [← hc]
    exact ⟨by rw [V.bl.injEq, Bool.eq_iff_iff]; simp, rfl⟩⟩) fun cv s2 z => ?_
  obtain ⟨v, H2, I2, rc, rfl, rfl⟩ := z
  cases rc
  refine wpAny_truthy_bool ?_
  cases c with
  | true =>
    exact wpAny_assignInOrder_none (hb.run pins s2 σ H2 D I2 h)
  | false => exact hr.run false pins s2 σ H2 D x u I2 ru h
theorem ps_match {e : Expr} {cs : List MatchCase} {pos : Pos} {te : TE} {t : Str → TS} (he : PE X e te) (hm : PMs X cs t) : PS X (.Match e cs pos) (tMatch te t) := by
  refine ⟨fun pins s σ H D I h => ?_⟩
  refine wpAny_Match (thn (he.run pins s σ H _ I h) fun u s1 z => ?_)
  obtain ⟨v, H1, I1, rv, x, rfl, q⟩ := z
  exact hm.run true pins s1 σ H1 D x u I1 rv q
end
end Cor
set_option Elab.async false
set_option linter.all false
set_option maxRecDepth 100000
set_option maxHeartbeats 1000000
namespace Law
open PySem PySem.Spec PyProof.Rows L2 Cor
/-- the built-ins' names are not taken -/
structure GloW (mg : Str → Option Value) : Prop extends Glo mg where
  isinstance : mg "isinstance" = none
  tuple : mg "tuple" = none
  bool : mg "bool" = none
  set : mg "set" = none
  sorted : mg "sorted" = none
  str : mg "str" = none
  dict : mg "dict" = none
abbrev sLeaf : Stmt := topS 15
abbrev sNode : Stmt := topS 16
theorem scLeaf : FnScope ["tree"] ["tree"] (defScope sLeaf) := ⟨rfl, rfl, rfl, by decide +kernel, rfl, by decide +kernel, by decide +kernel⟩
theorem scNode : FnScope ["number", "yes", "no"] ["number", "yes", "no"] (defScope sNode) := ⟨rfl, rfl, rfl, by decide +kernel, rfl, by decide +kernel, by decide +kernel⟩
def isLf : Tr → Bool
  | .lf _ => true
  | .nd _ _ _ => false
def spLeaf : Sp := fun vs H Q _ => ∃ v t, vs = [v] ∧ Tv H v t ∧ Q (.bl (isLf t)) H
def spNode : Sp := fun vs H Q _ => ∃ (n : Int) (y o : V) (ty to : Tr) (k : Bool), vs = [.int n, y, o] ∧ Tv H y ty ∧ Tv H o to ∧ ty.hom k ∧ to.hom k ∧ ty.dep ≤ 60 ∧ to.dep ≤ 60 ∧
  ∀ v H', Same H H' → Tv H' v (mkNd n ty to) → Q v H'
theorem tv_tuple {K : PySem.W.Frag} {H : Hp} : ∀ {t : Tr} {v : V}, Tv H v t → ∃ ty, TyX K H v ty ∧ PySem.W.kitOne K ty (.type "tuple") = some (!isLf t)
  | .lf (.i n), _, h => by rw [h.lf_of]; exact ⟨_, .base (.int n), kit_ty (r := false) (by decide +kernel)⟩
  | .lf (.b n), _, h => by rw [h.lf_of]; exact ⟨_, .base (.bl n), kit_ty (r := false) (by decide +kernel)⟩
  | .nd n ty to, _, h => by
    obtain ⟨a, y, o, rfl, h1, h2, h3⟩ := h.nd_of
    exact ⟨_, .base (.tup h1), kit_ty (r := true) (by decide +kernel)⟩
section
variable {P : Program} {w : World} {K : PySem.W.Frag} {mg : Str → Option Value} {base : Heap}
theorem ok_leaf {f : Addr} {fd : FuncData} (F : Fun K "is_leaf" "is_leaf" sLeaf f fd) (T : GloW mg) : FnOk P w K mg base CX0 1 f fd ["tree"] spLeaf := by
  refine F.ok scLeaf (fun vs H Q E h => ?_) (fun cdv A outer s H vs Q E hr h => ?_)
  · obtain ⟨v, t, rfl, _⟩ := h
    rfl
  · obtain ⟨v, t, rfl, hv, q⟩ := h
    refine ⟨_, (pss_one (ps_ret (pe_not (pe_callB (id := "isinstance") (show CallR _ (.builtin "isinstance") (rIsi K) from call_isi) (by rfl) T.isinstance (by decide +kernel) (pa_cons (pv 0) (pa_cons (pe_bltn (v := .ty "tuple") (by rfl) T.tuple (by decide +kernel) rfl) pa_nil)))))), ?_⟩
    obtain ⟨ty, h1, h2⟩ := tv_tuple (K := K) hv
    refine ⟨_, rfl, _, _, _, _, _, rfl, .ty "tuple", h1, h2, _, rfl, ?_⟩
    rw [Bool.not_not]
    exact q
theorem ok_node {f : Addr} {fd : FuncData} (F : Fun K "node" "node" sNode f fd) (T : GloW mg) : FnOk P w K mg base CX0 1 f fd ["number", "yes", "no"] spNode := by
  refine F.ok scNode (fun vs H Q E h => ?_) (fun cdv A outer s H vs Q E hr h => ?_)
  · obtain ⟨n, y, o, ty, to, k, rfl, _⟩ := h
    rfl
  · obtain ⟨n, y, o, ty, to, k, rfl, hy, ho, ky, ko, dy, d0, q⟩ := h
    refine ⟨_, (pss_one (ps_ret (pe_ifExp (pt_cmpR (op_eqD hr.units) (pv 1) (pv 2) (nomark _)) (pv 1) (pe_tup (pa_cons (pv 0) (pa_cons (pv 1) (pa_cons (pv 2) pa_nil))))))), ?_⟩
    refine ⟨_, rfl, _, rfl, _, _, hy.dp, ho.dp, Tr.shaped (by omega), Tr.shaped (by omega), _, rfl, ?_⟩
    rw [eqv_tr ky ko]
    refine ite2 (fun hb => ?_) (fun hb => ?_)
    · have e := of_decide_eq_true hb
      refine ⟨_, rfl, q _ _ (fun _ _ z => z) ?_⟩
      unfold mkNd
      rw [if_pos e]
      exact hy
    · have e : ¬ ty = to := fun z => hb (decide_eq_true z)
      refine ⟨_, rfl, _, rfl, _, rfl, (by show 3 ≤ sizeLine; decide), fun p np => ?_⟩
      have s := same_upd (o := .tup [.int n, y, o]) np
      refine q _ _ s ?_
      unfold mkNd
      rw [if_neg e]
      exact .nd upd_same (hy.same s) (ho.same s)
end
end Law
set_option Elab.async false
set_option linter.all false
set_option maxRecDepth 100000
set_option maxHeartbeats 1000000
namespace Cor
open PySem PySem.Spec PyProof.Rows L2
section
variable {P : Program} {w : World} {K : PySem.W.Frag} {mg : Str → Option Value} {base : Heap}
/-- def f(*pv): the promise speaks of the values; h: both lines by rfl -/
theorem _root_.L2.Fun.star {x qual : Str} {st : Stmt} {f : Addr} {fd : FuncData} {N : List Str} {pv : Str} {k : Nat} {sp : Sp} (F : Fun K x qual st f fd) (S : FnScope N ([] ++ [pv]) (defScope st))
    (h0 : ∀ (kV doc pm : Value) (an : Option Addr) (cdv ct : Value), bindArgs (PySem.W.fnOf x qual (defArgs st) (defBody st) (defScope st) .none kV doc pm an cdv ct) ⟨[], []⟩ = (newTuple [] >>= fun t => pure [(pv, t)]))
    (h1 : ∀ (kV doc pm : Value) (an : Option Addr) (cdv ct : Value) (r : Value) (rs : List Value), bindArgs (PySem.W.fnOf x qual (defArgs st) (defBody st) (defScope st) .none kV doc pm an cdv ct) ⟨r :: rs, []⟩ = (newTuple (r :: rs) >>= fun t => pure [(pv, t)]))
    (hbody : ∀ (cdv : Value) (A : Around) (outer : List Env) (s : Shared) (H : Hp) (vs : List V) (Q : VK) (E : XK), Room k (A.deeper (envOfC qual (defScope st) s.heap.objs.size f cdv)) → sp vs H Q E →
      ∃ t, PSs (cxOf CX0 P w K mg base N qual (defScope st) f cdv A outer s H E).nox (defBody st) t ∧ t { nx := fun _ H' => Q .non H', rt := Q } (start N vs) H) :
    FnR P w K mg base CX0 (k + 1) f (fun vs H Q E => ∃ ws rest, vs = ws ++ rest ∧ ws.length = ([] : List Str).length ∧ rest.length ≤ sizeLine ∧ ∀ p, H p = Option.none → sp (ws ++ [V.ref p]) (upd H p (.tup rest)) Q E) := by
  obtain ⟨oc, od, kV, doc, pm, an, cdv, ct, osl, rfl, lk, hcd⟩ := F.ex
  refine StX.fn_star (ps := []) lk hcd S StX.cxUp_none (fun us rest hl => ?_) fun A outer s H vs Q E hr hsp => ?_
  · match us, rest, hl with
    | [], [], _ => exact h0 kV doc pm an cdv ct
    | [], r :: rs, _ => exact h1 kV doc pm an cdv ct r rs
  · obtain ⟨t, h, q⟩ := hbody cdv A outer s H vs Q E hr hsp
    exact ⟨t, h.nox, q⟩
end
def DfR (P : Program) (w : World) (K : PySem.W.Frag) (mg : Str → Option Value) (base : Heap) (x : Str) (k : Nat) (sp : Sp) : Prop :=
  ∃ f, FnR P w K mg base CX0 k f sp ∧ mg x = some (.ref f) ∧ PySem.W.keepIn K (.ref f) = true
def tCallR (sp : Sp) (t : TA) : TE := fun σ H Q => t σ H fun vs H1 => sp vs H1 Q E0
theorem pe_dfR {X : Cx} {k : Nat} {sp : Sp} {x : Str} {p pos : Pos} {e : Expr} {es : List Expr} {t : TA} (D : DfR X.prog X.w X.K X.mg X.base x k sp) (hr : Room k X.A) (hg : Gl X x) (ha : PA X (e :: es) t)
    (hdb : (x == ("__debug__" : Str)) = false := by decide) (he : starEach (e :: es) X.env = (false, eval e X.env) :: starEach es X.env := by rfl) (hpl : (backTo pos (starEach es X.env)).any (·.1) = false := by rfl) :
    PE X (.Call (.Name x p) (e :: es) [] pos) (tCallR sp t) := by
  obtain ⟨f, F, m, kp⟩ := D
  refine ⟨fun pins s σ H Q I h => ?_⟩
  refine wpAny_Call_Name_kw (ld_glob I hg m ?_ hdb)
  refine PySem.W.callWith_K (h₀ := X.base) I.ok.mod.kin kp (thn (ha.run pos pins s σ H _ I h) fun us s1 ⟨vs, H1, I1, r, q⟩ => ⟨I1.kIn, ?_⟩) he hpl
  exact wpAny_call (run_fnR F hr pass0 I1 r q)
end Cor
set_option Elab.async false
set_option linter.all false
set_option maxRecDepth 100000
set_option maxHeartbeats 1000000
namespace Law
open PySem PySem.Spec PyProof.Rows L2 Cor
abbrev sCase : Stmt := topS 17
abbrev sTops : Stmt := topS 18
theorem scCase : FnScope ["tree", "number", "truth", "first", "yes", "no"] ["tree", "number", "truth"] (defScope sCase) := ⟨rfl, rfl, rfl, by decide +kernel, rfl, by decide +kernel, by decide +kernel⟩
theorem scTops : FnScope ["trees", "tree"] ["trees"] (defScope sTops) := ⟨rfl, rfl, rfl, by decide +kernel, rfl, by decide +kernel, by decide +kernel⟩
/-- what remains by a number that is at the top, or above it -/
def spCase : Sp := fun vs H Q _ => ∃ (v : V) (t : Tr) (n : Int) (b : Bool), vs = [v, .int n, .bl b] ∧ Tv H v t ∧ t.from n ∧ ∀ v', Tv H v' (caseTop n b t) → Q v' H
def topsOf : Tr → List Int
  | .lf _ => []
  | .nd n _ _ => [n]
def spTops : Sp := fun vs H Q _ => ∃ (v1 v2 : V) (t1 t2 : Tr), vs = [v1, v2] ∧ Tv H v1 t1 ∧ Tv H v2 t2 ∧ ∀ q H', Same H H' → H' q = some (.lst ((topsOf t1 ++ topsOf t2).map V.int)) → Q (.ref q) H'
def spTops0 : Sp := fun vs H Q _ => ∃ (p : Addr) (v1 v2 : V) (t1 t2 : Tr), vs = [.ref p] ∧ H p = some (.tup [v1, v2]) ∧ Tv H v1 t1 ∧ Tv H v2 t2 ∧ ∀ q H', Same H H' → H' q = some (.lst ((topsOf t1 ++ topsOf t2).map V.int)) → Q (.ref q) H'
section
variable {P : Program} {w : World} {K : PySem.W.Frag} {mg : Str → Option Value} {base : Heap}
theorem ok_case {f : Addr} {fd : FuncData} (F : Fun K "case_of" "case_of" sCase f fd) (T : GloW mg) (dl : Df P w K mg base "is_leaf" 1 ["tree"] spLeaf) : FnOk P w K mg base CX0 2 f fd ["tree", "number", "truth"] spCase := by
  refine F.ok scCase (fun vs H Q E h => ?_) (fun cdv A outer s H vs Q E hr h => ?_)
  · obtain ⟨v, t, n, b, rfl, _⟩ := h
    rfl
  · obtain ⟨v, t, n, b, rfl, hv, hf, q⟩ := h
    refine ⟨_, (pss_cons (ps_if (PW.pt (pw_or (pt_val (pe_df (E := E0) dl hr (by rfl) (pa_cons (pv 0) pa_nil))) (pw_or1 (pt_cmpR op_gt (pe_ix ix_tup (pv 0) pe_int (fun _ _ => rfl)) (pv 1) (nomark _))))) (pss_one (ps_ret (pv 0))) pss_nil)
      (pss_cons (ps_asg (pv 0) (pg_tup rfl (pgs_cons (pg_name (i := 3) scCase.nd rfl (Or.inl rfl)) (pgs_cons (pg_name (i := 4) scCase.nd rfl (Or.inl rfl)) (pgs_cons (pg_name (i := 5) scCase.nd rfl (Or.inl rfl)) pgs_nil)))))
      (pss_cons (ps_if (pt_cmpR op_eq (pv 3) (pv 1) (nomark _)) (pss_one (ps_ret (pe_ifExp (pt_val (pv 2)) (pv 4) (pv 5)))) pss_nil)
      (pss_one ps_never)))), ?_⟩
    refine ⟨_, rfl, _, t, rfl, hv, _, rfl, ?_⟩
    cases t with
    | lf l => exact ⟨_, rfl, q _ hv⟩
    | nd m ty to =>
      obtain ⟨a, y, o, rfl, h1, h2, h3⟩ := hv.nd_of
      refine ⟨_, rfl, a, _, _, _, rfl, rfl, SqT.of h1, rfl, _, rfl, _, _, rfl, rfl, _, rfl, ?_⟩
      refine ite2 (fun hb => ?_) (fun hb => ?_)
      · have e : n < m := of_decide_eq_true hb
        refine ⟨_, rfl, q _ ?_⟩
        rw [caseTop_nd, if_neg (by omega)]
        exact hv
      · have e : ¬ n < m := fun z => hb (decide_eq_true z)
        have hf : n ≤ m := hf
        have e2 : m = n := by omega
        subst e2
        refine ⟨_, rfl, a, _, rfl, SqT.of h1, rfl, ?_⟩
        refine ⟨_, _, rfl, _, _, rfl, _, _, rfl, rfl, ?_⟩
        refine ⟨_, rfl, _, rfl, rfl, _, rfl, ?_⟩
        refine ite2 (fun hb => ?_) (fun hb => absurd (decide_eq_true rfl) hb)
        refine ⟨_, rfl, _, rfl, ?_⟩
        cases b with
        | true => exact ⟨_, rfl, q _ (by rw [caseTop_nd, if_pos rfl, if_pos rfl]; exact h2)⟩
        | false => exact ⟨_, rfl, q _ (by rw [caseTop_nd, if_pos rfl, if_neg Bool.false_ne_true]; exact h3)⟩
theorem ok_tops0 {f : Addr} {fd : FuncData} (F : Fun K "tops" "tops" sTops f fd) (T : GloW mg) (dl : Df P w K mg base "is_leaf" 1 ["tree"] spLeaf) :
    FnR P w K mg base CX0 2 f (fun vs H Q E => ∃ ws rest, vs = ws ++ rest ∧ ws.length = ([] : List Str).length ∧ rest.length ≤ sizeLine ∧ ∀ p, H p = Option.none → spTops0 (ws ++ [V.ref p]) (upd H p (.tup rest)) Q E) := by
  refine F.star scTops (fun _ _ _ _ _ _ => rfl) (fun _ _ _ _ _ _ _ _ => rfl) (fun cdv A outer s H vs Q E hr h => ?_)
  obtain ⟨p, v1, v2, t1, t2, rfl, hp, hv1, hv2, q⟩ := h
  refine ⟨_, (pss_one (ps_ret (pe_lc (own := [("tree", 1)]) (g := gName 1) (by rfl) scTops.nd (pi_tup (pv 0)) (blkOk_by (own := [("tree", 1)]) (N := ["trees", "tree"]) (sc := defScope sTops) (by decide +kernel)) (fun _ _ _ _ _ => (pg_name (i := 1) scTops.nd rfl (Or.inl rfl))) (fun _ _ _ _ _ => (pts_one (pt_not (pt_val (pe_df (E := E0) dl hr (by rfl) (pa_cons (pv 1) pa_nil)))))) (fun _ _ _ _ _ => (pe_ix (show IxR _ (rIxT K) from ix_tup) (pv 1) pe_int (fun _ _ => rfl)))))), ?_⟩
  refine ⟨_, rfl, p, rfl, ⟨_, SqT.of hp⟩, fun D nD => lc_tup (xs := [v1, v2]) (fun i H' => Same H H' ∧ H' D = some (.lst (((if i = 0 then [] else if i = 1 then topsOf t1 else topsOf t1 ++ topsOf t2) : List Int).map V.int))) ?_ ?_ ?_ ?_⟩
  · exact ⟨same_upd nD, upd_same⟩
  · rintro i H' _ ⟨s, _⟩
    exact SqT.of (s _ _ hp)
  · rintro i x H' hx ⟨s, e⟩
    have key : ∃ (t : Tr) (as : List Int), Tv H' x t ∧ H' D = some (.lst (as.map V.int)) ∧ as.length ≤ 1 ∧ (if i + 1 = 0 then [] else if i + 1 = 1 then topsOf t1 else topsOf t1 ++ topsOf t2) = as ++ topsOf t := by
      match i, hx with
      | 0, hx => cases hx; exact ⟨t1, [], hv1.same s, e, by decide, rfl⟩
      | 1, hx => cases hx; exact ⟨t2, topsOf t1, hv2.same s, e, (by cases t1 <;> simp [topsOf]), rfl⟩
      | i + 2, hx => cases hx
    obtain ⟨t, as, ht, ha, la, er⟩ := key
    rw [er]
    refine ⟨rfl, _, rfl, _, t, rfl, ht, _, rfl, ?_⟩
    cases t with
    | lf l => exact ⟨s, by rw [ha]; simp [topsOf]⟩
    | nd m ty to =>
      obtain ⟨a, y, o, rfl, h1, h2, h3⟩ := ht.nd_of
      refine ⟨_, rfl, a, _, _, _, rfl, rfl, SqT.of h1, rfl, _, ha, ?_, ?_, ?_⟩
      · rw [List.length_map]; exact Nat.lt_of_le_of_lt la (by decide)
      · exact fun b o z => by
          by_cases eb : b = D
          · rw [eb, nD] at z; cases z
          · rw [upd_ne eb]; exact s b o z
      · rw [upd_same, List.map_append]; rfl
  · rintro H' ⟨s, e⟩
    exact q D H' s e
theorem ok_tops {f : Addr} {fd : FuncData} (F : Fun K "tops" "tops" sTops f fd) (T : GloW mg) (dl : Df P w K mg base "is_leaf" 1 ["tree"] spLeaf) : FnR P w K mg base CX0 2 f spTops := by
  intro A outer s H us vs Q E hr e0 r h
  obtain ⟨v1, v2, t1, t2, rfl, h1, h2, q⟩ := h
  refine ok_tops0 F T dl A outer s H us _ Q E hr e0 r ⟨[], [v1, v2], rfl, rfl, (by show 2 ≤ sizeLine; decide), fun p np => ?_⟩
  have sp := same_upd (o := .tup [v1, v2]) np
  exact ⟨p, v1, v2, t1, t2, rfl, upd_same, h1.same sp, h2.same sp, fun q' H' s' e => q q' H' (fun b o z => s' b o (sp b o z)) e⟩
end
end Law
set_option Elab.async false
set_option linter.all false
set_option maxRecDepth 100000
set_option maxHeartbeats 1000000
namespace Law
open PySem PySem.Spec PyProof.Rows L2 Cor
abbrev sChoice : Stmt := topS 19
theorem scChoice : FnScope ["number", "yes", "no", "least", "held", "failed"] ["number", "yes", "no"] (defScope sChoice) := ⟨rfl, rfl, rfl, by decide +kernel, rfl, by decide +kernel, by decide +kernel⟩
def spChoice (m : Nat) : Sp := fun vs H Q _ => ∃ (n : Int) (y o : V) (ty to : Tr) (k : Bool) (B : Nat) (S : List Int), vs = [.int n, y, o] ∧ Tv H y ty ∧ Tv H o to ∧ Asc S ∧ S.length ≤ m ∧ n ∈ S ∧ Cn (Lg k B) S ty ∧ Cn (Lg k B) S to ∧
  ∀ v H' t, Same H H' → Tv H' v t → Cn (Lg k B) S t → (∀ r : Rho, t.ev r = if r n = true then ty.ev r else to.ev r) → Q v H'
theorem from_tops {n : Int} : ∀ {t : Tr}, (∀ m ∈ topsOf t, n ≤ m) → t.from n
  | .lf _, _ => True.intro
  | .nd m _ _, h => h m List.mem_cons_self
theorem tops_mem {g : Lf → Prop} {S : List Int} : ∀ {t : Tr}, Cn g S t → ∀ m ∈ topsOf t, m ∈ S
  | .lf _, _, m, h => by cases h
  | .nd n y o, h, m, hm => h.mem m (by
    rw [List.mem_singleton.mp hm]
    exact List.mem_cons_self)
section
variable {P : Program} {w : World} {K : PySem.W.Frag} {mg : Str → Option Value} {base : Heap}
theorem ok_choice {f : Addr} {fd : FuncData} (F : Fun K "choice" "choice" sChoice f fd) (T : GloW mg) (dn : Df P w K mg base "node" 1 ["number", "yes", "no"] spNode) (dc : Df P w K mg base "case_of" 2 ["tree", "number", "truth"] spCase) (dt : DfR P w K mg base "tops" 2 spTops)
    (hm : mg "choice" = some (.ref f)) : ∀ m, m ≤ 50 → FnOk P w K mg base CX0 (3 + m) f fd ["number", "yes", "no"] (spChoice m)
  | 0, _ => by
    refine F.ok scChoice (k := 2) (fun vs H Q E h => ?_) (fun cdv A outer s H vs Q E hr h => ?_)
    · obtain ⟨n, y, o, ty, to, k, B, S, rfl, _⟩ := h
      rfl
    · obtain ⟨n, y, o, ty, to, k, B, S, rfl, _, _, _, hl, hn, _⟩ := h
      rw [List.length_eq_zero_iff.mp (Nat.le_zero.mp hl)] at hn
      cases hn
  | m + 1, hm50 => by
    have ih : Df P w K mg base "choice" (3 + m) ["number", "yes", "no"] (spChoice m) := ⟨f, fd, ok_choice F T dn dc dt hm m (by omega), hm, F.kp, F.binds fun _ _ _ _ _ _ us hl => match us, hl with | [_, _, _], _ => rfl⟩
    refine F.ok scChoice (k := 3 + m) (fun vs H Q E h => ?_) (fun cdv A outer s H vs Q E hr h => ?_)
    · obtain ⟨n, y, o, ty, to, k, B, S, rfl, _⟩ := h
      rfl
    · obtain ⟨n, y, o, ty, to, k, B, S, rfl, hy, ho, hS, hl, hn, cy, co, q⟩ := h
      refine ⟨_, (pss_cut (ps_set (i := 3) scChoice.nd rfl (Or.inl rfl) (pe_callBK (cr_minD rfl hr.units) (by rfl) T.min (by decide +kernel) (pa_cons (pe_dfR dt (hr.mono (by omega)) (by rfl) (pa_cons (pv 1) (pa_cons (pv 2) pa_nil))) pa_nil) (pk_cons (pv 0) pk_nil)))
      (pss_cons (ps_if (pt_cmpR op_ge (pv 3) (pv 0) (nomark _)) (pss_one (ps_ret (pe_df (E := E0) dn (hr.mono (by omega)) (by rfl) (pa_cons (pv 0) (pa_cons (pe_df (E := E0) dc (hr.mono (by omega)) (by rfl) (pa_cons (pv 1) (pa_cons (pv 0) (pa_cons pe_bl pa_nil)))) (pa_cons (pe_df (E := E0) dc (hr.mono (by omega)) (by rfl) (pa_cons (pv 2) (pa_cons (pv 0) (pa_cons pe_bl pa_nil)))) pa_nil)))))) pss_nil)
      (pss_cons (ps_set (i := 4) scChoice.nd rfl (Or.inl rfl) (pe_df (E := E0) ih hr (by rfl) (pa_cons (pv 0) (pa_cons (pe_df (E := E0) dc (hr.mono (by omega)) (by rfl) (pa_cons (pv 1) (pa_cons (pv 3) (pa_cons pe_bl pa_nil)))) (pa_cons (pe_df (E := E0) dc (hr.mono (by omega)) (by rfl) (pa_cons (pv 2) (pa_cons (pv 3) (pa_cons pe_bl pa_nil)))) pa_nil)))))
      (pss_cons (ps_set (i := 5) scChoice.nd rfl (Or.inl rfl) (pe_df (E := E0) ih hr (by rfl) (pa_cons (pv 0) (pa_cons (pe_df (E := E0) dc (hr.mono (by omega)) (by rfl) (pa_cons (pv 1) (pa_cons (pv 3) (pa_cons pe_bl pa_nil)))) (pa_cons (pe_df (E := E0) dc (hr.mono (by omega)) (by rfl) (pa_cons (pv 2) (pa_cons (pv 3) (pa_cons pe_bl pa_nil)))) pa_nil)))))
      (pss_one (ps_ret (pe_df (E := E0) dn (hr.mono (by omega)) (by rfl) (pa_cons (pv 3) (pa_cons (pv 4) (pa_cons (pv 5) pa_nil)))))))))), ?_⟩
      refine ⟨fun σ' H' => ∃ least : Int, σ' = [some (.int n), some y, some o, some (.int least), none, none] ∧ Same H H' ∧ (∀ x ∈ topsOf ty ++ topsOf to, least ≤ x) ∧ (least = n ∨ least ∈ topsOf ty ++ topsOf to), ?_, ?_⟩
      · refine ⟨_, rfl, _, rfl, _, _, ty, to, rfl, hy, ho, fun p H1 s1 e1 => ?_⟩
        refine ⟨_, rfl, p, _, _, rfl, rfl, SqL.of e1, fun e => ?_, fun x hx hle => ?_⟩
        · exact ⟨n, rfl, s1, fun x hx => (by rw [e] at hx; cases hx), .inl rfl⟩
        · exact ⟨x, rfl, s1, hle, .inr hx⟩
      · rintro σ' H1 ⟨least, rfl, s1, hle, hor⟩
        have hy1 := hy.same s1
        have ho1 := ho.same s1
        have fy : ty.from least := from_tops fun x hx => hle x (List.mem_append_left _ hx)
        have fo : to.from least := from_tops fun x hx => hle x (List.mem_append_right _ hx)
        refine ⟨_, rfl, _, rfl, _, _, rfl, rfl, _, rfl, ?_⟩
        refine ite2 (fun hb => ?_) (fun hb => ?_)
        · have e : n ≤ least := of_decide_eq_true hb
          have fy : ty.from n := from_tops fun x hx => by have := hle x (List.mem_append_left _ hx); omega
          have fo : to.from n := from_tops fun x hx => by have := hle x (List.mem_append_right _ hx); omega
          have c1 := caseTop_cn (b := true) hS cy fy
          have c2 := caseTop_cn (b := false) hS co fo
          have d1 := c1.dep_le
          have d2 := c2.dep_le
          have dl := above_len hS hn
          refine ⟨_, rfl, _, rfl, _, rfl, _, ty, n, true, rfl, hy1, fy, fun v1 hv1 => ?_⟩
          refine ⟨_, rfl, _, rfl, _, to, n, false, rfl, ho1, fo, fun v2 hv2 => ?_⟩
          refine ⟨n, v1, v2, _, _, k, rfl, hv1, hv2, c1.hom Lg.k, c2.hom Lg.k, by omega, by omega, fun v H2 s2 hv => ?_⟩
          refine q v H2 _ (fun b o z => s2 b o (s1 b o z)) hv (mkNd_cn' hS hn c1 c2) fun r => ?_
          rw [mkNd_ev]
          by_cases hr : r n = true
          · rw [if_pos hr, if_pos hr, caseTop_ev hS cy fy, put_true hr]
          · rw [if_neg hr, if_neg hr, caseTop_ev hS co fo, put_true (Bool.eq_false_iff.mpr hr)]
        · have e : least < n := Int.not_le.mp fun z => hb (decide_eq_true z)
          have hls : least ∈ S := by
            rcases hor with z | z
            · omega
            · rcases List.mem_append.mp z with z | z
              · exact tops_mem cy _ z
              · exact tops_mem co _ z
          have dl := above_len hS hls
          have c1 := fun b => caseTop_cn (b := b) hS cy fy
          have c2 := fun b => caseTop_cn (b := b) hS co fo
          have hn' : n ∈ above least S := mem_above.mpr ⟨hn, e⟩
          refine ⟨_, rfl, _, rfl, _, rfl, _, ty, least, true, rfl, hy1, fy, fun v1 hv1 => ?_⟩
          refine ⟨_, rfl, _, rfl, _, to, least, true, rfl, ho1, fo, fun v2 hv2 => ?_⟩
          refine ⟨n, v1, v2, _, _, k, B, above least S, rfl, hv1, hv2, above_asc hS, by omega, hn', c1 true, c2 true, fun v3 H2 t3 s2 hv3 ct3 et3 => ?_⟩
          refine ⟨_, rfl, _, rfl, _, rfl, _, ty, least, false, rfl, hy1.same s2, fy, fun v4 hv4 => ?_⟩
          refine ⟨_, rfl, _, rfl, _, to, least, false, rfl, ho1.same s2, fo, fun v5 hv5 => ?_⟩
          refine ⟨n, v4, v5, _, _, k, B, above least S, rfl, hv4, hv5, above_asc hS, by omega, hn', c1 false, c2 false, fun v6 H3 t6 s3 hv6 ct6 et6 => ?_⟩
          have d3 := ct3.dep_le
          have d6 := ct6.dep_le
          refine ⟨_, rfl, _, rfl, _, rfl, least, v3, v6, t3, t6, k, rfl, hv3.same s3, hv6, ct3.hom Lg.k, ct6.hom Lg.k, by omega, by omega, fun v H4 s4 hv => ?_⟩
          refine q v H4 _ (fun b o z => s4 b o (s3 b o (s2 b o (s1 b o z)))) hv (mkNd_cn' hS hls ct3 ct6) fun r => ?_
          rw [mkNd_ev]
          by_cases hr : r least = true
          · rw [if_pos hr, et3, caseTop_ev hS cy fy, caseTop_ev hS co fo, put_true hr]
          · rw [if_neg hr, et6, caseTop_ev hS cy fy, caseTop_ev hS co fo, put_true (Bool.eq_false_iff.mpr hr)]
end
end Law
set_option Elab.async false
set_option linter.all false
set_option maxRecDepth 100000
set_option maxHeartbeats 1000000
namespace Law
open PySem PySem.Spec PyProof.Rows L2 Cor
abbrev sJoined : Stmt := topS 20
abbrev sCombined : Stmt := topS 21
theorem scJoined : FnScope ["sign", "one", "other"] ["sign", "one", "other"] (defScope sJoined) := ⟨rfl, rfl, rfl, by decide +kernel, rfl, by decide +kernel, by decide +kernel⟩
theorem scCombined : FnScope ["sign", "one", "other", "firsts", "least", "held", "failed"] ["sign", "one", "other"] (defScope sCombined) := ⟨rfl, rfl, rfl, by decide +kernel, rfl, by decide +kernel, by decide +kernel⟩
def spJoined : Sp := fun vs H Q _ => ∃ (o : Op) (a b : Lf) (B B' : Nat), vs = [.str o.sign, a.v, b.v] ∧ Lg o.kin B a ∧ Lg o.kin B' b ∧ B ≤ 1000 ∧ B' ≤ 1000 ∧ Q (o.ap a b).v H
def spCombined (m : Nat) : Sp := fun vs H Q _ => ∃ (op : Op) (v1 v2 : V) (t1 t2 : Tr) (B B' : Nat) (S : List Int), vs = [.str op.sign, v1, v2] ∧ Tv H v1 t1 ∧ Tv H v2 t2 ∧ Asc S ∧ S.length ≤ m ∧ B ≤ 1000 ∧ B' ≤ 1000 ∧ Cn (Lg op.kin B) S t1 ∧ Cn (Lg op.kin B') S t2 ∧
  ∀ v H' t, Same H H' → Tv H' v t → Cn (Lg op.kout (B + B' + 1)) S t → (∀ r : Rho, t.ev r = op.ap (t1.ev r) (t2.ev r)) → Q v H'
theorem eqv_nil : ∀ (ns : List Int), PyData.eqv (.list (ns.map .int)) (.list []) = decide (ns = [])
  | [] => rfl
  | n :: ns => rfl
theorem dp_ints {K : PySem.W.Frag} {H : Hp} : ∀ (ns : List Int), DpAll K H (ns.map V.int) (ns.map .int)
  | [] => .nil
  | n :: ns => .cons (.int n) (dp_ints ns)
theorem lay_ints : ∀ (ns : List Int), PyData.canLayAll0 (ns.map .int) = true
  | [] => rfl
  | n :: ns => by
    show (PyData.canLay0 (.int n) && PyData.canLayAll0 (ns.map .int)) = true
    rw [lay_ints ns]; rfl
theorem shaped_ints (ns : List Int) : SeqAt.shaped (.list (ns.map .int)) = true := by
  unfold SeqAt.shaped
  have h : PyData.depth (.list (ns.map .int)) ≤ 64 := by
    show PyData.depthAll (ns.map .int) + 1 ≤ 64
    have := ints_depth ns
    omega
  rw [decide_eq_true h, show PyData.canLay0 (.list (ns.map .int)) = PyData.canLayAll0 (ns.map .int) from rfl, lay_ints]
  rfl
theorem tops_nil : ∀ {t : Tr}, topsOf t = [] → ∃ l, t = .lf l
  | .lf l, _ => ⟨l, rfl⟩
  | .nd _ _ _, h => by cases h
section
variable {P : Program} {w : World} {K : PySem.W.Frag} {mg : Str → Option Value} {base : Heap}
theorem ok_joined {f : Addr} {fd : FuncData} (F : Fun K "joined" "joined" sJoined f fd) (T : GloW mg) : FnOk P w K mg base CX0 1 f fd ["sign", "one", "other"] spJoined := by
  refine F.ok scJoined (fun vs H Q E h => ?_) (fun cdv A outer s H vs Q E hr h => ?_)
  · obtain ⟨op, a, b, B, B', rfl, _⟩ := h
    rfl
  · obtain ⟨op, a, b, B, B', rfl, ha, hb, hB, hB', q⟩ := h
    refine ⟨_, (pss_cons (ps_match (pv 0) (pms_cons (pss_one (ps_ret (pe_op op_add (pv 1) (pv 2)))) (pms_cons (pss_one (ps_ret (pe_op op_sub (pv 1) (pv 2)))) (pms_cons (pss_one (ps_ret (pe_op op_mulW (pv 1) (pv 2)))) (pms_cons (pss_one (ps_ret (pe_cmpR op_lt (pv 1) (pv 2) (nomark _)))) (pms_cons (pss_one (ps_ret (pe_cmpR op_le (pv 1) (pv 2) (nomark _)))) (pms_cons (pss_one (ps_ret (pe_and (pv 1) (pe_one (pv 2))))) (pms_cons (pss_one (ps_ret (pe_or (pv 1) (pe_one (pv 2))))) pms_nil))))))))
      (pss_one (ps_ret (pe_cmpR op_eq (pv 1) (pv 2) (nomark _))))), ?_⟩
    refine ⟨_, rfl, _, rfl, ?_⟩
    cases op with
    | add =>
      obtain ⟨x, rfl, h1⟩ := Lg.int ha
      obtain ⟨y, rfl, h2⟩ := Lg.int hb
      exact ⟨true, by decide, _, rfl, _, rfl, _, _, rfl, rfl, q⟩
    | sub =>
      obtain ⟨x, rfl, h1⟩ := Lg.int ha
      obtain ⟨y, rfl, h2⟩ := Lg.int hb
      exact ⟨false, by decide, true, by decide, _, rfl, _, rfl, _, _, rfl, rfl, q⟩
    | mul =>
      obtain ⟨x, rfl, h1⟩ := Lg.int ha
      obtain ⟨y, rfl, h2⟩ := Lg.int hb
      exact ⟨false, by decide, false, by decide, true, by decide, _, rfl, _, rfl, _, _, rfl, rfl, wide_mul (Nat.lt_of_lt_of_le h1 (Nat.pow_le_pow_right (by decide) (Nat.le_succ B))) (Nat.lt_of_lt_of_le h2 (Nat.pow_le_pow_right (by decide) (Nat.le_succ B'))) (Nat.succ_pos _) (Nat.succ_pos _) (by omega), q⟩
    | lt =>
      obtain ⟨x, rfl, h1⟩ := Lg.int ha
      obtain ⟨y, rfl, h2⟩ := Lg.int hb
      exact ⟨false, by decide, false, by decide, false, by decide, true, by decide, _, rfl, _, rfl, _, _, rfl, rfl, q⟩
    | le =>
      obtain ⟨x, rfl, h1⟩ := Lg.int ha
      obtain ⟨y, rfl, h2⟩ := Lg.int hb
      exact ⟨false, by decide, false, by decide, false, by decide, false, by decide, true, by decide, _, rfl, _, rfl, _, _, rfl, rfl, q⟩
    | and =>
      obtain ⟨x, rfl⟩ := Lg.truth ha
      obtain ⟨y, rfl⟩ := Lg.truth hb
      refine ⟨false, by decide, false, by decide, false, by decide, false, by decide, false, by decide, true, by decide, _, rfl, _, rfl, ?_⟩
      cases x with
      | true => exact ⟨_, rfl, q⟩
      | false => exact q
    | or =>
      obtain ⟨x, rfl⟩ := Lg.truth ha
      obtain ⟨y, rfl⟩ := Lg.truth hb
      refine ⟨false, by decide, false, by decide, false, by decide, false, by decide, false, by decide, false, by decide, true, by decide, _, rfl, _, rfl, ?_⟩
      cases x with
      | true => exact q
      | false => exact ⟨_, rfl, q⟩
    | eq =>
      obtain ⟨x, rfl, h1⟩ := Lg.int ha
      obtain ⟨y, rfl, h2⟩ := Lg.int hb
      refine ⟨false, by decide, false, by decide, false, by decide, false, by decide, false, by decide, false, by decide, false, by decide, _, rfl, _, rfl, rfl, ?_⟩
      have e : decide (Lf.v (.i x) = Lf.v (.i y)) = decide (x = y) := by
        rw [Bool.eq_iff_iff, decide_eq_true_iff, decide_eq_true_iff]
        exact V.int.injEq x y ▸ Iff.rfl
      rw [e]
      exact q
theorem ok_combined {f : Addr} {fd : FuncData} (F : Fun K "combined" "combined" sCombined f fd) (T : GloW mg) (dn : Df P w K mg base "node" 1 ["number", "yes", "no"] spNode) (dc : Df P w K mg base "case_of" 2 ["tree", "number", "truth"] spCase) (dt : DfR P w K mg base "tops" 2 spTops) (dj : Df P w K mg base "joined" 1 ["sign", "one", "other"] spJoined)
    (hm : mg "combined" = some (.ref f)) : ∀ m, m ≤ 50 → FnOk P w K mg base CX0 (3 + m) f fd ["sign", "one", "other"] (spCombined m) := by
  intro m
  induction m with
  | zero =>
    intro _
    refine F.ok scCombined (k := 2) (fun vs H Q E h => ?_) (fun cdv A outer s H vs Q E hr h => ?_)
    · obtain ⟨op, v1, v2, t1, t2, B, B', S, rfl, _⟩ := h
      rfl
    · obtain ⟨op, v1, v2, t1, t2, B, B', S, rfl, hv1, hv2, hS, hl, hB, hB', c1, c2, q⟩ := h
      refine ⟨_, (pss_cons (ps_set (i := 3) scCombined.nd rfl (Or.inl rfl) (pe_dfR dt (hr.mono (by omega)) (by rfl) (pa_cons (pv 1) (pa_cons (pv 2) pa_nil))))
      (pss_cons (ps_if (pt_cmpR (op_eqD hr.units) (pv 3) (pe_lst pa_nil) (nomark _)) (pss_one (ps_ret (pe_df (E := E0) dj (hr.mono (by omega)) (by rfl) (pa_cons (pv 0) (pa_cons (pv 1) (pa_cons (pv 2) pa_nil)))))) pss_nil)
      (pss_cons ps_never
      (pss_cons ps_never
      (pss_cons ps_never
      (pss_one ps_never)))))), ?_⟩
      refine ⟨_, rfl, _, rfl, _, _, t1, t2, rfl, hv1, hv2, fun p H1 s1 e1 => ?_⟩
      refine ⟨_, rfl, (by show 0 ≤ sizeLine; decide), fun p0 n0 => ?_⟩
      have s2 := same_upd (o := .lst []) n0
      have e2 := s2 _ _ e1
      refine ⟨_, _, .lst (SqL.of e2) (dp_ints _), .lst (SqL.of upd_same) .nil, shaped_ints _, shaped_ints [], _, rfl, ?_⟩
      obtain rfl := List.length_eq_zero_iff.mp (Nat.le_zero.mp hl)
      have z1 : topsOf t1 = [] := List.eq_nil_iff_forall_not_mem.mpr fun x hx => by cases tops_mem c1 x hx
      have z2 : topsOf t2 = [] := List.eq_nil_iff_forall_not_mem.mpr fun x hx => by cases tops_mem c2 x hx
      rw [eqv_nil]
      refine ite2 (fun hb => ?_) (fun hb => absurd (decide_eq_true (by rw [z1, z2]; rfl)) hb)
      obtain ⟨a, rfl⟩ := tops_nil z1
      obtain ⟨b, rfl⟩ := tops_nil z2
      obtain rfl := hv1.lf_of
      obtain rfl := hv2.lf_of
      have g1 := c1.lf_of
      have g2 := c2.lf_of
      exact ⟨_, rfl, _, rfl, _, rfl, op, a, b, B, B', rfl, g1, g2, hB, hB', q _ _ (.lf (op.ap a b)) (fun b o z => s2 b o (s1 b o z)) (.lf _) (.lf (Op.bound g1 g2)) fun r => rfl⟩
  | succ m IH =>
    intro hm50
    have ih : Df P w K mg base "combined" (3 + m) ["sign", "one", "other"] (spCombined m) := ⟨f, fd, IH (by omega), hm, F.kp, F.binds fun _ _ _ _ _ _ us hl => match us, hl with | [_, _, _], _ => rfl⟩
    refine F.ok scCombined (k := 3 + m) (fun vs H Q E h => ?_) (fun cdv A outer s H vs Q E hr h => ?_)
    · obtain ⟨op, v1, v2, t1, t2, B, B', S, rfl, _⟩ := h
      rfl
    · obtain ⟨op, v1, v2, t1, t2, B, B', S, rfl, hv1, hv2, hS, hl, hB, hB', c1, c2, q⟩ := h
      refine ⟨_, (pss_cons (ps_set (i := 3) scCombined.nd rfl (Or.inl rfl) (pe_dfR dt (hr.mono (by omega)) (by rfl) (pa_cons (pv 1) (pa_cons (pv 2) pa_nil))))
      (pss_cons (ps_if (pt_cmpR (op_eqD hr.units) (pv 3) (pe_lst pa_nil) (nomark _)) (pss_one (ps_ret (pe_df (E := E0) dj (hr.mono (by omega)) (by rfl) (pa_cons (pv 0) (pa_cons (pv 1) (pa_cons (pv 2) pa_nil)))))) pss_nil)
      (pss_cons (ps_set (i := 4) scCombined.nd rfl (Or.inl rfl) (pe_callB (cr_min rfl) (by rfl) T.min (by decide +kernel) (pa_cons (pv 3) pa_nil)))
      (pss_cons (ps_set (i := 5) scCombined.nd rfl (Or.inl rfl) (pe_df (E := E0) ih hr (by rfl) (pa_cons (pv 0) (pa_cons (pe_df (E := E0) dc (hr.mono (by omega)) (by rfl) (pa_cons (pv 1) (pa_cons (pv 4) (pa_cons pe_bl pa_nil)))) (pa_cons (pe_df (E := E0) dc (hr.mono (by omega)) (by rfl) (pa_cons (pv 2) (pa_cons (pv 4) (pa_cons pe_bl pa_nil)))) pa_nil)))))
      (pss_cons (ps_set (i := 6) scCombined.nd rfl (Or.inl rfl) (pe_df (E := E0) ih hr (by rfl) (pa_cons (pv 0) (pa_cons (pe_df (E := E0) dc (hr.mono (by omega)) (by rfl) (pa_cons (pv 1) (pa_cons (pv 4) (pa_cons pe_bl pa_nil)))) (pa_cons (pe_df (E := E0) dc (hr.mono (by omega)) (by rfl) (pa_cons (pv 2) (pa_cons (pv 4) (pa_cons pe_bl pa_nil)))) pa_nil)))))
      (pss_one (ps_ret (pe_df (E := E0) dn (hr.mono (by omega)) (by rfl) (pa_cons (pv 4) (pa_cons (pv 5) (pa_cons (pv 6) pa_nil))))))))))), ?_⟩
      refine ⟨_, rfl, _, rfl, _, _, t1, t2, rfl, hv1, hv2, fun p H1 s1 e1 => ?_⟩
      refine ⟨_, rfl, (by show 0 ≤ sizeLine; decide), fun p0 n0 => ?_⟩
      have s2 := same_upd (o := .lst []) n0
      have e2 := s2 _ _ e1
      refine ⟨_, _, .lst (SqL.of e2) (dp_ints _), .lst (SqL.of upd_same) .nil, shaped_ints _, shaped_ints [], _, rfl, ?_⟩
      rw [eqv_nil]
      refine ite2 (fun hb => ?_) (fun hb => ?_)
      · obtain ⟨z1, z2⟩ := List.append_eq_nil_iff.mp (of_decide_eq_true hb)
        obtain ⟨a, rfl⟩ := tops_nil z1
        obtain ⟨b, rfl⟩ := tops_nil z2
        obtain rfl := hv1.lf_of
        obtain rfl := hv2.lf_of
        have g1 := c1.lf_of
        have g2 := c2.lf_of
        exact ⟨_, rfl, _, rfl, _, rfl, op, a, b, B, B', rfl, g1, g2, hB, hB', q _ _ (.lf (op.ap a b)) (fun b o z => s2 b o (s1 b o z)) (.lf _) (.lf (Op.bound g1 g2)) fun r => rfl⟩
      · have ne : topsOf t1 ++ topsOf t2 ≠ [] := fun z => hb (decide_eq_true z)
        refine ⟨_, rfl, p, _, rfl, SqL.of e2, List.length_pos_iff.mpr ne, fun least hls hle => ?_⟩
        have s3 : Same H (upd H1 p0 (.lst [])) := fun b o z => s2 b o (s1 b o z)
        have hv1' := hv1.same s3
        have hv2' := hv2.same s3
        have f1 : t1.from least := from_tops fun x hx => hle x (List.mem_append_left _ hx)
        have f2 : t2.from least := from_tops fun x hx => hle x (List.mem_append_right _ hx)
        have hls : least ∈ S := by
          rcases List.mem_append.mp hls with z | z
          · exact tops_mem c1 _ z
          · exact tops_mem c2 _ z
        have dl := above_len hS hls
        have k1 := fun b => caseTop_cn (b := b) hS c1 f1
        have k2 := fun b => caseTop_cn (b := b) hS c2 f2
        refine ⟨_, rfl, _, rfl, _, rfl, _, t1, least, true, rfl, hv1', f1, fun v3 hv3 => ?_⟩
        refine ⟨_, rfl, _, rfl, _, t2, least, true, rfl, hv2', f2, fun v4 hv4 => ?_⟩
        refine ⟨op, v3, v4, _, _, B, B', above least S, rfl, hv3, hv4, above_asc hS, by omega, hB, hB', k1 true, k2 true, fun v5 H3 t5 s5 hv5 ct5 et5 => ?_⟩
        refine ⟨_, rfl, _, rfl, _, rfl, _, t1, least, false, rfl, hv1'.same s5, f1, fun v6 hv6 => ?_⟩
        refine ⟨_, rfl, _, rfl, _, t2, least, false, rfl, hv2'.same s5, f2, fun v7 hv7 => ?_⟩
        refine ⟨op, v6, v7, _, _, B, B', above least S, rfl, hv6, hv7, above_asc hS, by omega, hB, hB', k1 false, k2 false, fun v8 H4 t8 s8 hv8 ct8 et8 => ?_⟩
        have d5 := ct5.dep_le
        have d8 := ct8.dep_le
        refine ⟨_, rfl, _, rfl, _, rfl, least, v5, v8, t5, t8, op.kout, rfl, hv5.same s8, hv8, ct5.hom Lg.k, ct8.hom Lg.k, by omega, by omega, fun v H5 s9 hv => ?_⟩
        refine q v H5 _ (fun b o z => s9 b o (s8 b o (s5 b o (s3 b o z)))) hv (mkNd_cn' hS hls ct5 ct8) fun r => ?_
        rw [mkNd_ev]
        by_cases hr : r least = true
        · rw [if_pos hr, et5, caseTop_ev hS c1 f1, caseTop_ev hS c2 f2, put_true hr]
        · rw [if_neg hr, et8, caseTop_ev hS c1 f1, caseTop_ev hS c2 f2, put_true (Bool.eq_false_iff.mpr hr)]
end
end Law
set_option Elab.async false
set_option linter.all false
set_option maxRecDepth 100000
set_option maxHeartbeats 1000000
namespace Law
open PySem PySem.Spec PyProof.Rows L2 Cor
abbrev sTurned : Stmt := topS 22
abbrev sTruthT : Stmt := topS 28
abbrev sIsInt : Stmt := topS 9
theorem scTurned : FnScope ["tree", "number", "yes", "no"] ["tree"] (defScope sTurned) := ⟨rfl, rfl, rfl, by decide +kernel, rfl, by decide +kernel, by decide +kernel⟩
theorem scTruthT : FnScope ["tree"] ["tree"] (defScope sTruthT) := ⟨rfl, rfl, rfl, by decide +kernel, rfl, by decide +kernel, by decide +kernel⟩
theorem scIsInt : FnScope ["value"] ["value"] (defScope sIsInt) := ⟨rfl, rfl, rfl, by decide +kernel, rfl, by decide +kernel, by decide +kernel⟩
def Lf.turn : Lf → Lf
  | .i n => .i (-n)
  | .b v => .b (!v)
theorem Lg.turn {k : Bool} {B : Nat} : ∀ {a : Lf}, Lg k B a → Lg k B (Lf.turn a)
  | .i n, h => ⟨h.1, by rw [Int.natAbs_neg]; exact h.2⟩
  | .b _, h => h
def spTurned (m : Nat) : Sp := fun vs H Q _ => ∃ (v : V) (t : Tr) (k : Bool) (B : Nat) (S : List Int), vs = [v] ∧ Tv H v t ∧ t.dep < m ∧ Asc S ∧ S.length ≤ 50 ∧ Cn (Lg k B) S t ∧
  ∀ v' H' t', Same H H' → Tv H' v' t' → Cn (Lg k B) S t' → (∀ r : Rho, t'.ev r = Lf.turn (t.ev r)) → Q v' H'
def spTruthT (m : Nat) : Sp := fun vs H Q _ => ∃ (v : V) (t : Tr) (k : Bool), vs = [v] ∧ Tv H v t ∧ t.dep < m ∧ t.hom k ∧ Q (.bl k) H
/-- a plain value that may be given for a worth -/
def spIsInt (K : PySem.W.Frag) : Sp := fun vs H Q _ => ∃ (v : V) (ty : Value) (b c : Bool), vs = [v] ∧ TyX K H v ty ∧ PySem.W.kitOne K ty (.type "int") = some b ∧ PySem.W.kitOne K ty (.type "bool") = some c ∧ Q (.bl (b && !c)) H
section
variable {P : Program} {w : World} {K : PySem.W.Frag} {mg : Str → Option Value} {base : Heap}
theorem ok_isint {f : Addr} {fd : FuncData} (F : Fun K "is_integer" "is_integer" sIsInt f fd) (T : GloW mg) : FnOk P w K mg base CX0 1 f fd ["value"] (spIsInt K) := by
  refine F.ok scIsInt (fun vs H Q E h => ?_) (fun cdv A outer s H vs Q E hr h => ?_)
  · obtain ⟨v, ty, b, c, rfl, _⟩ := h
    rfl
  · obtain ⟨v, ty, b, c, rfl, h1, h2, h3, q⟩ := h
    refine ⟨_, (pss_one (ps_ret (pe_and (pe_callB (id := "isinstance") (show CallR _ (.builtin "isinstance") (rIsi K) from call_isi) (by rfl) T.isinstance (by decide +kernel) (pa_cons (pv 0) (pa_cons (pe_bltn (v := .ty "int") (by rfl) T.int (by decide +kernel) rfl) pa_nil))) (pe_one (pe_not (pe_callB (id := "isinstance") (show CallR _ (.builtin "isinstance") (rIsi K) from call_isi) (by rfl) T.isinstance (by decide +kernel) (pa_cons (pv 0) (pa_cons (pe_bltn (v := .ty "bool") (by rfl) T.bool (by decide +kernel) rfl) pa_nil)))))))), ?_⟩
    refine ⟨_, rfl, _, _, _, _, _, rfl, .ty "int", h1, h2, _, rfl, ?_⟩
    cases b with
    | true => exact ⟨_, rfl, _, _, _, _, _, rfl, .ty "bool", h1, h3, _, rfl, q⟩
    | false => exact q
theorem ok_truthT {f : Addr} {fd : FuncData} (F : Fun K "is_truth_tree" "is_truth_tree" sTruthT f fd) (T : GloW mg) (dl : Df P w K mg base "is_leaf" 1 ["tree"] spLeaf) (hm : mg "is_truth_tree" = some (.ref f)) :
    ∀ m, FnOk P w K mg base CX0 (2 + m) f fd ["tree"] (spTruthT m) := by
  intro m
  induction m with
  | zero =>
    refine F.ok scTruthT (k := 1) (fun vs H Q E h => ?_) (fun cdv A outer s H vs Q E hr h => ?_)
    · obtain ⟨v, t, k, rfl, _⟩ := h
      rfl
    · obtain ⟨v, t, k, rfl, _, hl, _⟩ := h
      omega
  | succ m IH =>
    have ih : Df P w K mg base "is_truth_tree" (2 + m) ["tree"] (spTruthT m) := ⟨f, fd, IH, hm, F.kp, F.binds fun _ _ _ _ _ _ us hl => match us, hl with | [_], _ => rfl⟩
    refine F.ok scTruthT (k := 2 + m) (fun vs H Q E h => ?_) (fun cdv A outer s H vs Q E hr h => ?_)
    · obtain ⟨v, t, k, rfl, _⟩ := h
      rfl
    · obtain ⟨v, t, k, rfl, hv, hl, hk, q⟩ := h
      refine ⟨_, (pss_one (ps_ret (pe_ifExp (pt_val (pe_df (E := E0) dl (hr.mono (by omega)) (by rfl) (pa_cons (pv 0) pa_nil))) (pe_callB (id := "isinstance") (show CallR _ (.builtin "isinstance") (rIsi K) from call_isi) (by rfl) T.isinstance (by decide +kernel) (pa_cons (pv 0) (pa_cons (pe_bltn (v := .ty "bool") (by rfl) T.bool (by decide +kernel) rfl) pa_nil))) (pe_df (E := E0) ih hr (by rfl) (pa_cons (pe_ix ix_tup (pv 0) pe_int (fun _ _ => rfl)) pa_nil))))), ?_⟩
      refine ⟨_, rfl, _, t, rfl, hv, _, rfl, ?_⟩
      cases t with
      | lf l =>
        obtain rfl := hv.lf_of
        cases l with
        | i n =>
          have e : k = false := hk
          subst e
          exact ⟨_, rfl, _, _, _, _, _, rfl, .ty "bool", .base (.int n), kit_ty (r := false) (by decide +kernel), q⟩
        | b n =>
          have e : k = true := hk
          subst e
          exact ⟨_, rfl, _, _, _, _, _, rfl, .ty "bool", .base (.bl n), kit_ty (r := true) (by decide +kernel), q⟩
      | nd n ty to =>
        obtain ⟨a, y, o, rfl, h1, h2, h3⟩ := hv.nd_of
        have hl : max ty.dep to.dep + 1 < m + 1 := hl
        exact ⟨_, rfl, a, _, _, _, rfl, rfl, SqT.of h1, rfl, _, ty, k, rfl, h2, by omega, hk.1, q⟩
theorem ok_turned {f : Addr} {fd : FuncData} (F : Fun K "turned" "turned" sTurned f fd) (T : GloW mg) (dl : Df P w K mg base "is_leaf" 1 ["tree"] spLeaf) (dn : Df P w K mg base "node" 1 ["number", "yes", "no"] spNode) (hm : mg "turned" = some (.ref f)) :
    ∀ m, m ≤ 50 → FnOk P w K mg base CX0 (2 + m) f fd ["tree"] (spTurned m) := by
  intro m
  induction m with
  | zero =>
    intro _
    refine F.ok scTurned (k := 1) (fun vs H Q E h => ?_) (fun cdv A outer s H vs Q E hr h => ?_)
    · obtain ⟨v, t, k, B, S, rfl, _⟩ := h
      rfl
    · obtain ⟨v, t, k, B, S, rfl, _, hl, _⟩ := h
      omega
  | succ m IH =>
    intro hm50
    have ih : Df P w K mg base "turned" (2 + m) ["tree"] (spTurned m) := ⟨f, fd, IH (by omega), hm, F.kp, F.binds fun _ _ _ _ _ _ us hl => match us, hl with | [_], _ => rfl⟩
    refine F.ok scTurned (k := 2 + m) (fun vs H Q E h => ?_) (fun cdv A outer s H vs Q E hr h => ?_)
    · obtain ⟨v, t, k, B, S, rfl, _⟩ := h
      rfl
    · obtain ⟨v, t, k, B, S, rfl, hv, hl, hS, h50, ct, q⟩ := h
      refine ⟨_, (pss_cons (ps_if (pt_val (pe_df (E := E0) dl (hr.mono (by omega)) (by rfl) (pa_cons (pv 0) pa_nil))) (pss_one (ps_ret (pe_ifExp (pt_val (pe_callB (id := "isinstance") (show CallR _ (.builtin "isinstance") (rIsi K) from call_isi) (by rfl) T.isinstance (by decide +kernel) (pa_cons (pv 0) (pa_cons (pe_bltn (v := .ty "bool") (by rfl) T.bool (by decide +kernel) rfl) pa_nil)))) (pe_not (pv 0)) (pe_un un_neg (pv 0))))) pss_nil)
      (pss_cons (ps_asg (pv 0) (pg_tup rfl (pgs_cons (pg_name (i := 1) scTurned.nd rfl (Or.inl rfl)) (pgs_cons (pg_name (i := 2) scTurned.nd rfl (Or.inl rfl)) (pgs_cons (pg_name (i := 3) scTurned.nd rfl (Or.inl rfl)) pgs_nil)))))
      (pss_one (ps_ret (pe_df (E := E0) dn (hr.mono (by omega)) (by rfl) (pa_cons (pv 1) (pa_cons (pe_df (E := E0) ih hr (by rfl) (pa_cons (pv 2) pa_nil)) (pa_cons (pe_df (E := E0) ih hr (by rfl) (pa_cons (pv 3) pa_nil)) pa_nil)))))))), ?_⟩
      refine ⟨_, rfl, _, t, rfl, hv, _, rfl, ?_⟩
      cases t with
      | lf l =>
        have g := ct.lf_of
        have q' := q _ H (.lf (Lf.turn l)) (fun _ _ z => z) (.lf _) (.lf (Lg.turn g)) fun _ => rfl
        obtain rfl := hv.lf_of
        cases l with
        | i n => exact ⟨_, rfl, _, _, _, _, _, rfl, .ty "bool", .base (.int n), kit_ty (r := false) (by decide +kernel), _, rfl, _, rfl, _, rfl, q'⟩
        | b n => exact ⟨_, rfl, _, _, _, _, _, rfl, .ty "bool", .base (.bl n), kit_ty (r := true) (by decide +kernel), _, rfl, _, rfl, _, rfl, q'⟩
      | nd n ty to =>
        obtain ⟨a, y, o, rfl, h1, h2, h3⟩ := hv.nd_of
        have hl : max ty.dep to.dep + 1 < m + 1 := hl
        obtain ⟨hn, _, cy, co⟩ := Cn.below hS ct
        have dl := above_len hS hn
        refine ⟨_, rfl, a, _, rfl, SqT.of h1, rfl, _, _, rfl, _, _, rfl, _, _, rfl, rfl, ?_⟩
        refine ⟨_, rfl, _, rfl, y, ty, k, B, above n S, rfl, h2, by omega, above_asc hS, by omega, cy, fun v1 H1 t1 s1 hv1 c1 e1 => ?_⟩
        refine ⟨_, rfl, o, to, k, B, above n S, rfl, h3.same s1, by omega, above_asc hS, by omega, co, fun v2 H2 t2 s2 hv2 c2 e2 => ?_⟩
        have dy : t1.dep ≤ 60 := by have := c1.dep_le; omega
        have d0 : t2.dep ≤ 60 := by have := c2.dep_le; omega
        refine ⟨n, v1, v2, t1, t2, k, rfl, hv1.same s2, hv2, c1.hom Lg.k, c2.hom Lg.k, dy, d0, fun v H3 s3 hv => ?_⟩
        refine q v H3 _ (fun b o z => s3 b o (s2 b o (s1 b o z))) hv (mkNd_cn' hS hn c1 c2) fun r => ?_
        rw [mkNd_ev, e1, e2]
        show _ = Lf.turn (if r n = true then _ else _)
        by_cases hr : r n = true
        · rw [if_pos hr, if_pos hr]
        · rw [if_neg hr, if_neg hr]
end
end Law
set_option Elab.async false
set_option linter.all false
set_option maxRecDepth 100000
set_option maxHeartbeats 4000000
namespace Cor
open PySem PySem.Spec PyProof.Rows L2
section
variable {P : Program} {w : World} {A : Around} {E : Value → Shared → Prop} {s : Shared}
/-- the new set, empty -/
abbrev emptyS (w : World) : Obj := { cls := .type "set", dict := none, data := .set #[] 0 (.fresh 0 0 (!w.params.followText "set-order")) }
theorem set_of_list {l : Addr} {items : Array Value} (ns : List Int) {Q : Value → Shared → Prop} (hh : A.handled = none) (hl : s.heap.IsList l items) (hit : IntsAre items.toList ns) (hb : ns.length + 1 < scanBound)
    (h : ∀ (h' : Heap) (tk c : Nat), SetR w h' s.heap.objs.size (fun j => decide (j ∈ ns)) c → c ≤ ns.length → (∀ b o, s.heap.get? b = some o → h'.get? b = some o) → Q (.ref s.heap.objs.size) { s with heap := h', toks := tk }) :
    wpAny (model P w) A (call (.type "set") [.ref l]) Q E s := by
  have size : items.size = ns.length := by rw [← Array.length_toList]; exact IntsAre.length hit
  obtain ⟨c, tl, hmro⟩ := F.called_set.mro
  have hmade := F.called_set.made
  have hsub := F.called_set.sub
  refine wpAny_call (codeAny_of_tree ?_)
  show wpAny _ _ (callAny (.type "set") _) _ _ _
  refine wpAny_pure ⟨Code.quiet_builtin _ (by decide +kernel), codeAny_builtin F.entry_type_call ?_⟩
  rw [Around.under_plain (weight_type_call_type "set" [.ref l] []) rfl]
  have h1 := F.called_set.notType
  have h2 := F.called_set.canCreate
  have hct := F.typeCall_set_1 (.ref l)
  repeat (any_goals (first | assumption | wp_step))
  refine codeAny_mono (code_set_led1 (.ref l) (E := E) (Q₁ := fun obj s1 => obj = .ref s.heap.objs.size ∧ s1 = { s with heap := s.heap.push (emptyS w) }) ⟨rfl, rfl⟩) fun r s1 hr => ?_
  match r, hr with
  | .error e, hr => exact hr
  | .ok .next, hr => exact hr.elim
  | .ok .brk, hr => exact hr.elim
  | .ok .cont, hr => exact hr.elim
  | .ok (.ret obj), hr =>
    obtain ⟨rfl, rfl⟩ := hr
    have hS : (s.heap.push (emptyS w)).get? s.heap.objs.size = some (emptyS w) := Heap.get?_push_size _ rfl
    have hT : Shared.TypeIs { s with heap := s.heap.push (emptyS w) } (.ref s.heap.objs.size) "set" := ⟨_, hS, rfl⟩
    have hli := F.called_set.init.lookup
    have hbi := F.called_set.init.bind (.ref s.heap.objs.size)
    repeat (any_goals (first | assumption | wp_step))
    refine codeAny_mono (codeAny_call_builtin (R := wants (fun r s2 => r = .none ∧ ∃ h' tk c, s2 = { s with heap := h', toks := tk } ∧ SetR w h' s.heap.objs.size (fun j => decide (j ∈ ns)) c ∧ c ≤ ns.length ∧
        (∀ b o, s.heap.get? b = some o → h'.get? b = some o)) E) F.called_set.init.plain F.entry_set_init (check_set_init_1 hT ?_)) fun r2 s2 hr2 => ?_
    · obtain ⟨ol, hol, hcl, nl, hdl⟩ := hl
      obtain ⟨ocls, odict, odata, oslots⟩ := ol
      simp only at hcl hdl
      subst hcl; subst hdl
      have hol2 : (s.heap.push (emptyS w)).get? l = some { cls := .type "list", dict := odict, data := .seq items nl, slots := oslots } := Heap.get?_push_of_some _ hol
      have hsls := F.sub_list_set
      have hslf := F.sub_list_frozenset
      have hne : (Value.type "list" == Value.type "dict") = false := by decide
      have hl1 : (s.heap.push (emptyS w)).IsList l items := ⟨_, hol2, rfl, nl, rfl⟩
      unfold Builtin.«set.__init__» noKeywords Builtin.Frozenset.updateFrom
      generalize hPI : pyIter = PI
      wp_walk
      subst hPI
      refine wpAny_pyIter_list hl1 ?_
      refine wpAny_bind (wpAny_runValue ?_)
      have lt : l < s.heap.objs.size := Heap.lt_size hol
      have hh3 : A.in1.in1.in1.handled = none := by simp [hh]
      have neI : l ≠ (s.heap.push (emptyS w)).objs.size := by rw [Heap.size_push]; exact Nat.ne_of_lt (Nat.lt_succ_of_lt lt)
      have notF : s.heap.objs.size ∉ [(s.heap.push (emptyS w)).objs.size, l] := by
        rw [Heap.size_push]
        simp only [List.mem_cons, List.not_mem_nil, or_false, not_or]
        exact ⟨Nat.ne_of_lt (Nat.lt_succ_self _), Nat.ne_of_gt lt⟩
      have vals : ∀ (i : Nat) (v : Value), items[i]? = some v → ∃ k t, ns[i]? = some k ∧ v = .int k t := fun i v hv => by
        have hi : i < ns.length := by rw [← size]; exact (Array.getElem?_eq_some_iff.mp hv).1
        obtain ⟨t, e⟩ := PyProof.Rows.IntsAre.int_at hit i v (by rw [Array.getElem?_toList]; exact hv)
        refine ⟨ns[i], t, List.getElem?_eq_getElem hi, ?_⟩
        rw [e, List.getD_eq_getElem?_getD, List.getElem?_eq_getElem hi] <;> rfl
      refine set_update_ints ((Walks.list hh3 _ l neI items).toS) s.heap.objs.size notF ns size hb vals (items.size - 0) 0 _ (by omega) (Nat.zero_le _)
        ⟨⟨_, Heap.get?_push_size _ rfl, rfl, rfl⟩, (hl1.push _)⟩ ⟨0, Nat.le_refl 0, setR_new_at (Heap.get?_push_of_some _ hS)⟩ fun s' c' hm hc' hS' => ?_
      obtain ⟨h', g2, d', tk', os'⟩ := s'
      obtain rfl : g2 = s.gens := hm.gens
      obtain rfl : d' = s.drawn := hm.drawn
      obtain rfl : os' = s.os := hm.os
      show wpAny _ _ _ _ _ _
      refine wpAny_pure ?_
      show wpAny _ _ (ret Value.none) _ _ _
      rw [size] at hc'
      refine wpAny_pure ⟨rfl, h', tk', c', rfl, hS', hc', fun b o e => ?_⟩
      have b0 : b < s.heap.objs.size := Heap.lt_size e
      refine hm.heap b o ?_ (Heap.get?_push_of_some _ (Heap.get?_push_of_some _ e))
      rw [Heap.size_push]
      simp only [List.mem_cons, List.not_mem_nil, or_false, not_or]
      exact ⟨Nat.ne_of_lt b0, Nat.ne_of_lt (Nat.lt_succ_of_lt b0)⟩
    · match r2, hr2 with
      | .error e, hr2 => exact hr2
      | .ok .next, hr2 => exact hr2.elim
      | .ok .brk, hr2 => exact hr2.elim
      | .ok .cont, hr2 => exact hr2.elim
      | .ok (.ret r), hr2 =>
        obtain ⟨rfl, h', tk, c', rfl, hS', hc', hk'⟩ := hr2
        repeat (any_goals (first | assumption | wp_step))
        exact h _ _ _ hS' hc' hk'
end
/-- set(l) -/
def rSetI (K : PySem.W.Frag) (w : World) : List V → Hp → VK → Prop := fun vs H Q => ∃ (l : Addr) (ns : List Int), vs = [.ref l] ∧ SqL K H l (ns.map V.int) ∧ ns.length ≤ 1000 ∧
  ∀ (p : Addr) (c : Nat), c ≤ ns.length → H p = none → Q (.ref p) (upd H p (SetO w p (fun j => decide (j ∈ ns)) c))
theorem cr_setI {X : Cx} (hc : X.calm = true) : CallR X (.type "set") (rSetI X.K X.w) := by
  intro pins s σ H vs us Q I r h
  obtain ⟨l, ns, rfl, hl, hn, q⟩ := h
  rw [Vals.ref1 r]
  obtain ⟨its, rv, pl, hz⟩ := I.list hl
  refine set_of_list ns (I.ok.hd hc) pl.isList (by simpa using rv.ints) (by unfold scanBound; omega) fun h' tk c R1 hcn k => ?_
  have hn2 : H s.heap.objs.size = none := I.hok.fresh (Nat.le_refl _)
  exact ⟨.ref s.heap.objs.size, _, I.laid (t' := tk) k (Nat.le_refl _) (setO_new R1), rfl, q _ c hcn hn2⟩
end Cor
set_option Elab.async false
set_option linter.all false
set_option maxRecDepth 100000
set_option maxHeartbeats 1000000
namespace Law
open PySem PySem.Spec PyProof.Rows L2 Cor
abbrev sNumbers : Stmt := topS 23
abbrev sReduced : Stmt := topS 24
theorem scNumbers : FnScope ["tree", "number", "yes", "no"] ["tree"] (defScope sNumbers) := ⟨rfl, rfl, rfl, by decide +kernel, rfl, by decide +kernel, by decide +kernel⟩
theorem scReduced : FnScope ["tree", "words", "number", "yes", "no"] ["tree", "words"] (defScope sReduced) := ⟨rfl, rfl, rfl, by decide +kernel, rfl, by decide +kernel, by decide +kernel⟩
theorem asc_sub : ∀ {S ns : List Int}, Asc S → Asc ns → (∀ n ∈ ns, n ∈ S) → ns.Sublist S
  | _, [], _, _, _ => List.nil_sublist _
  | [], n :: _, _, _, h => by cases h n List.mem_cons_self
  | s :: S, n :: ns, hS, hn, h => by
    obtain ⟨hs, hS'⟩ := List.pairwise_cons.mp hS
    obtain ⟨h1, hn'⟩ := List.pairwise_cons.mp hn
    by_cases e : n = s
    · subst e
      refine (asc_sub hS' hn' fun x hx => ?_).cons_cons n
      have := h1 x hx
      rcases List.mem_cons.mp (h x (List.mem_cons_of_mem _ hx)) with z | z
      · omega
      · exact z
    · refine (asc_sub hS' hn fun x hx => ?_).cons s
      have n1 : n ∈ S := (List.mem_cons.mp (h n List.mem_cons_self)).resolve_left e
      have n2 := hs n n1
      rcases List.mem_cons.mp (h x hx) with z | z
      · rcases List.mem_cons.mp hx with y | y
        · omega
        · have := h1 x y; omega
      · exact z
def spNumbers (m : Nat) : Sp := fun vs H Q _ => ∃ (v : V) (t : Tr) (k : Bool) (B : Nat) (S : List Int), vs = [v] ∧ Tv H v t ∧ t.dep < m ∧ Asc S ∧ S.length ≤ 31 ∧ Cn (Lg k B) S t ∧
  ∀ p H' ns, Same H H' → H' p = some (.lst (ns.map V.int)) → Asc ns → (∀ n, n ∈ ns ↔ n ∈ t.nums) → ns.length ≤ S.length → Q (.ref p) H'
/-- the words known, at d -/
def Wd (H : Hp) (d : Addr) (wf : Int → Option Bool) : Prop := ∃ kvs, H d = some (.dK kvs) ∧ ∀ n, valV kvs (Sum.inl n) = (wf n).map V.bl
theorem Wd.kp {H H' : Hp} {d : Addr} {wf : Int → Option Bool} (k : Kp H H') (h : Wd H d wf) : Wd H' d wf := let ⟨kvs, h1, h2⟩ := h; ⟨kvs, k _ _ (fun _ z => by cases z) h1, h2⟩
def over (wf : Int → Option Bool) (r : Rho) : Rho := fun n => (wf n).getD (r n)
def left (wf : Int → Option Bool) (S : List Int) : List Int := S.filter fun n => (wf n).isNone
def spReduced (m : Nat) : Sp := fun vs H Q _ => ∃ (v : V) (t : Tr) (d : Addr) (wf : Int → Option Bool) (k : Bool) (B : Nat) (S : List Int), vs = [v, .ref d] ∧ Tv H v t ∧ Wd H d wf ∧ t.dep < m ∧ Asc S ∧ S.length ≤ 50 ∧ Cn (Lg k B) S t ∧
  ∀ v' H' t', Same H H' → Tv H' v' t' → Cn (Lg k B) (left wf S) t' → (∀ r : Rho, t'.ev r = t.ev (over wf r)) → Q v' H'
theorem left_above {wf : Int → Option Bool} {n : Int} {S : List Int} : left wf (above n S) = above n (left wf S) := by
  unfold left above
  rw [List.filter_filter, List.filter_filter]
  congr 1
  funext x
  rw [Bool.and_comm]
section
variable {P : Program} {w : World} {K : PySem.W.Frag} {mg : Str → Option Value} {base : Heap}
theorem ok_numbers {f : Addr} {fd : FuncData} (F : Fun K "numbers_in" "numbers_in" sNumbers f fd) (T : GloW mg) (dl : Df P w K mg base "is_leaf" 1 ["tree"] spLeaf) (hm : mg "numbers_in" = some (.ref f)) :
    ∀ m, m ≤ 50 → FnOk P w K mg base CX0 (2 + m) f fd ["tree"] (spNumbers m) := by
  intro m
  induction m with
  | zero =>
    intro _
    refine F.ok scNumbers (k := 1) (fun vs H Q E h => ?_) (fun cdv A outer s H vs Q E hr h => ?_)
    · obtain ⟨v, t, k, B, S, rfl, _⟩ := h
      rfl
    · obtain ⟨v, t, k, B, S, rfl, _, hl, _⟩ := h
      omega
  | succ m IH =>
    intro hm50
    have ih : Df P w K mg base "numbers_in" (2 + m) ["tree"] (spNumbers m) := ⟨f, fd, IH (by omega), hm, F.kp, F.binds fun _ _ _ _ _ _ us hl => match us, hl with | [_], _ => rfl⟩
    refine F.ok scNumbers (k := 2 + m) (fun vs H Q E h => ?_) (fun cdv A outer s H vs Q E hr h => ?_)
    · obtain ⟨v, t, k, B, S, rfl, _⟩ := h
      rfl
    · obtain ⟨v, t, k, B, S, rfl, hv, hl, hS, h31, ct, q⟩ := h
      refine ⟨_, (pss_cons (ps_if (pt_val (pe_df (E := E0) dl (hr.mono (by omega)) (by rfl) (pa_cons (pv 0) pa_nil))) (pss_one (ps_ret (pe_lst pa_nil))) pss_nil)
      (pss_cons (ps_asg (pv 0) (pg_tup rfl (pgs_cons (pg_name (i := 1) scNumbers.nd rfl (Or.inl rfl)) (pgs_cons (pg_name (i := 2) scNumbers.nd rfl (Or.inl rfl)) (pgs_cons (pg_name (i := 3) scNumbers.nd rfl (Or.inl rfl)) pgs_nil)))))
      (pss_one (ps_ret (pe_lst (pa_cons (pv 1) (StX.pa_star (pe_callB (cr_sortedSet rfl) (by rfl) T.sorted (by decide +kernel) (pa_cons (pe_callTy (cr_setI rfl) (by rfl) T.set (by decide +kernel) (pa_cons (pe_op op_cat (pe_df (E := E0) ih hr (by rfl) (pa_cons (pv 2) pa_nil)) (pe_df (E := E0) ih hr (by rfl) (pa_cons (pv 3) pa_nil))) pa_nil)) pa_nil)) pa_nil))))))), ?_⟩
      refine ⟨_, rfl, _, t, rfl, hv, _, rfl, ?_⟩
      cases t with
      | lf l =>
        refine ⟨(by show 0 ≤ sizeLine; decide), fun p np => ?_⟩
        exact q p _ [] (same_upd np) upd_same .nil (fun n => Iff.rfl) (Nat.zero_le _)
      | nd n ty to =>
        obtain ⟨a, y, o, rfl, h1, h2, h3⟩ := hv.nd_of
        have hl : max ty.dep to.dep + 1 < m + 1 := hl
        obtain ⟨hn, _, cy, co⟩ := Cn.below hS ct
        have dl := above_len hS hn
        refine ⟨_, rfl, a, _, rfl, SqT.of h1, rfl, _, _, rfl, _, _, rfl, _, _, rfl, rfl, ?_⟩
        refine ⟨_, rfl, _, rfl, y, ty, k, B, above n S, rfl, h2, by omega, above_asc hS, by omega, cy, fun p1 H1 n1 s1 e1 a1 m1 l1 => ?_⟩
        refine ⟨_, rfl, o, to, k, B, above n S, rfl, h3.same s1, by omega, above_asc hS, by omega, co, fun p2 H2 n2 s2 e2 a2 m2 l2 => ?_⟩
        have len : (n1 ++ n2).length ≤ 60 := by rw [List.length_append]; omega
        refine ⟨p1, p2, _, _, rfl, rfl, s2 _ _ e1, e2, ?_, fun p3 np3 => ?_⟩
        · rw [List.length_map, List.length_map, ← List.length_append]; exact Nat.le_trans len (by decide)
        have s3 := same_upd (o := .lst (n1.map V.int ++ n2.map V.int)) np3
        refine ⟨p3, n1 ++ n2, rfl, SqL.of (by rw [List.map_append]; exact upd_same), by omega, fun p4 c hc np4 => ?_⟩
        have s4 := same_upd (o := SetO w p4 (fun j => decide (j ∈ n1 ++ n2)) c) np4
        refine ⟨p4, _, c, rfl, upd_same, by omega, fun ns p5 asc mem hlen np5 => ?_⟩
        have s5 := same_upd (o := .lst (ns.map V.int)) np5
        have up5 : (upd (upd (upd H2 p3 (.lst (n1.map V.int ++ n2.map V.int))) p4 (SetO w p4 (fun j => decide (j ∈ n1 ++ n2)) c)) p5 (.lst (ns.map V.int))) p5 = some (.lst (ns.map V.int)) := upd_same
        refine ⟨p5, _, rfl, .inr (SqL.of up5), ?_, fun p6 np6 => ?_⟩
        · show (ns.map V.int ++ []).length + 1 ≤ sizeLine
          rw [List.append_nil, List.length_map, hlen]; exact Nat.le_trans (Nat.succ_le_succ (Nat.le_trans hc len)) (by decide)
        have s6 := same_upd (o := .lst (V.int n :: (ns.map V.int ++ []))) np6
        have mem' : ∀ x, x ∈ ns ↔ x ∈ ty.nums ++ to.nums := fun x => by
          rw [mem x, decide_eq_true_iff, List.mem_append, List.mem_append, m1, m2]
        have hgt : ∀ x ∈ ns, n < x := fun x hx => by
          rcases List.mem_append.mp ((mem' x).mp hx) with z | z
          · exact cy.nums_above x z
          · exact co.nums_above x z
        have mem'' : ∀ x, x ∈ n :: ns ↔ x ∈ (Tr.nd n ty to).nums := fun x => by
          show _ ↔ x ∈ n :: (ty.nums ++ to.nums)
          rw [List.mem_cons, List.mem_cons, mem']
        have asc' : Asc (n :: ns) := List.pairwise_cons.mpr ⟨hgt, asc⟩
        refine q p6 _ (n :: ns) (fun b o z => s6 b o (s5 b o (s4 b o (s3 b o (s2 b o (s1 b o z)))))) (by rw [upd_same, List.append_nil]; rfl) asc' mem'' ?_
        exact (asc_sub hS asc' fun x hx => ct.mem x ((mem'' x).mp hx)).length_le
theorem ok_reduced {f : Addr} {fd : FuncData} (F : Fun K "reduced" "reduced" sReduced f fd) (T : GloW mg) (dl : Df P w K mg base "is_leaf" 1 ["tree"] spLeaf) (dn : Df P w K mg base "node" 1 ["number", "yes", "no"] spNode) (hm : mg "reduced" = some (.ref f)) :
    ∀ m, m ≤ 50 → FnOk P w K mg base CX0 (2 + m) f fd ["tree", "words"] (spReduced m) := by
  intro m
  induction m with
  | zero =>
    intro _
    refine F.ok scReduced (k := 1) (fun vs H Q E h => ?_) (fun cdv A outer s H vs Q E hr h => ?_)
    · obtain ⟨v, t, d, wf, k, B, S, rfl, _⟩ := h
      rfl
    · obtain ⟨v, t, d, wf, k, B, S, rfl, _, _, hl, _⟩ := h
      omega
  | succ m IH =>
    intro hm50
    have ih : Df P w K mg base "reduced" (2 + m) ["tree", "words"] (spReduced m) := ⟨f, fd, IH (by omega), hm, F.kp, F.binds fun _ _ _ _ _ _ us hl => match us, hl with | [_, _], _ => rfl⟩
    refine F.ok scReduced (k := 2 + m) (fun vs H Q E h => ?_) (fun cdv A outer s H vs Q E hr h => ?_)
    · obtain ⟨v, t, d, wf, k, B, S, rfl, _⟩ := h
      rfl
    · obtain ⟨v, t, d, wf, k, B, S, rfl, hv, hd, hl, hS, h50, ct, q⟩ := h
      have hu := hu_of hr
      refine ⟨_, (pss_cons (ps_if (pt_val (pe_df (E := E0) dl (hr.mono (by omega)) (by rfl) (pa_cons (pv 0) pa_nil))) (pss_one (ps_ret (pv 0))) pss_nil)
      (pss_cons (ps_asg (pv 0) (pg_tup rfl (pgs_cons (pg_name (i := 2) scReduced.nd rfl (Or.inl rfl)) (pgs_cons (pg_name (i := 3) scReduced.nd rfl (Or.inl rfl)) (pgs_cons (pg_name (i := 4) scReduced.nd rfl (Or.inl rfl)) pgs_nil)))))
      (pss_cons (ps_if (pt_cmp (pc_din hu (pv 2) (pv 1))) (pss_one (ps_ret (pe_df (E := E0) ih hr (by rfl) (pa_cons (pe_ifExp (pt_val (pe_dget hu (pv 1) (pv 2) (fun _ _ => rfl))) (pv 3) (pv 4)) (pa_cons (pv 1) pa_nil))))) pss_nil)
      (pss_one (ps_ret (pe_df (E := E0) dn (hr.mono (by omega)) (by rfl) (pa_cons (pv 2) (pa_cons (pe_df (E := E0) ih hr (by rfl) (pa_cons (pv 3) (pa_cons (pv 1) pa_nil))) (pa_cons (pe_df (E := E0) ih hr (by rfl) (pa_cons (pv 4) (pa_cons (pv 1) pa_nil))) pa_nil))))))))), ?_⟩
      refine ⟨_, rfl, _, t, rfl, hv, _, rfl, ?_⟩
      cases t with
      | lf l => exact ⟨_, rfl, q _ H _ (fun _ _ z => z) hv (.lf ct.lf_of) fun _ => rfl⟩
      | nd n ty to =>
        obtain ⟨a, y, o, rfl, h1, h2, h3⟩ := hv.nd_of
        have hl : max ty.dep to.dep + 1 < m + 1 := hl
        obtain ⟨hn, _, cy, co⟩ := Cn.below hS ct
        have dl := above_len hS hn
        obtain ⟨kvs, hk, hw⟩ := hd
        refine ⟨_, rfl, a, _, rfl, SqT.of h1, rfl, _, _, rfl, _, _, rfl, _, _, rfl, rfl, ?_⟩
        refine ⟨_, rfl, _, rfl, d, _, rfl, DGet.k (k := Sum.inl n) hk, _, rfl, ?_⟩
        rw [hw n]
        cases hb : wf n with
        | some b =>
          have hg : DGet H d (.int n) (some (.bl b)) := by
            have z := DGet.k (k := Sum.inl n) hk
            rw [hw n, hb] at z
            exact z
          have sub : (left wf (above n S)).Sublist (left wf S) := (above_sub n S).filter _
          refine ⟨_, rfl, _, rfl, d, _, rfl, hg, _, rfl, ?_⟩
          have ev : ∀ r : Rho, (Tr.nd n ty to).ev (over wf r) = if b = true then ty.ev (over wf r) else to.ev (over wf r) := fun r => by
            show (if (over wf r) n = true then _ else _) = _
            rw [show (over wf r) n = b by unfold over; rw [hb]; rfl]
          cases b with
          | true => exact ⟨_, rfl, _, rfl, y, ty, d, wf, k, B, above n S, rfl, h2, ⟨kvs, hk, hw⟩, by omega, above_asc hS, by omega, cy, fun v1 H1 t1 s1 hv1 c1 e1 => q v1 H1 t1 s1 hv1 (c1.sub sub) fun r => by rw [e1, ev, if_pos rfl]⟩
          | false => exact ⟨_, rfl, _, rfl, o, to, d, wf, k, B, above n S, rfl, h3, ⟨kvs, hk, hw⟩, by omega, above_asc hS, by omega, co, fun v1 H1 t1 s1 hv1 c1 e1 => q v1 H1 t1 s1 hv1 (c1.sub sub) fun r => by rw [e1, ev, if_neg Bool.false_ne_true]⟩
        | none =>
          refine ⟨_, rfl, _, rfl, _, rfl, y, ty, d, wf, k, B, above n S, rfl, h2, ⟨kvs, hk, hw⟩, by omega, above_asc hS, by omega, cy, fun v1 H1 t1 s1 hv1 c1 e1 => ?_⟩
          refine ⟨_, rfl, _, rfl, o, to, d, wf, k, B, above n S, rfl, h3.same s1, Wd.kp s1.kp ⟨kvs, hk, hw⟩, by omega, above_asc hS, by omega, co, fun v2 H2 t2 s2 hv2 c2 e2 => ?_⟩
          rw [left_above] at c1 c2
          have hS' : Asc (left wf S) := hS.sublist List.filter_sublist
          have hn' : n ∈ left wf S := List.mem_filter.mpr ⟨hn, by rw [hb]; rfl⟩
          have l' : (left wf S).length ≤ S.length := List.filter_sublist.length_le
          have l2 := above_len hS' hn'
          have dy : t1.dep ≤ 60 := by have := c1.dep_le; omega
          have d0 : t2.dep ≤ 60 := by have := c2.dep_le; omega
          refine ⟨n, v1, v2, t1, t2, k, rfl, hv1.same s2, hv2, c1.hom Lg.k, c2.hom Lg.k, dy, d0, fun v H3 s3 hv => ?_⟩
          refine q v H3 _ (fun b o z => s3 b o (s2 b o (s1 b o z))) hv (mkNd_cn' hS' hn' c1 c2) fun r => ?_
          rw [mkNd_ev, e1, e2]
          show _ = (if (over wf r) n = true then _ else _)
          rw [show (over wf r) n = r n by unfold over; rw [hb]; rfl]
end
end Law
set_option Elab.async false
set_option linter.all false
set_option maxRecDepth 100000
set_option maxHeartbeats 1000000
namespace Law
open PySem PySem.Spec PyProof.Rows L2 Cor
abbrev sText : Stmt := topS 25
theorem scText : FnScope ["tree", "number", "yes", "no"] ["tree"] (defScope sText) := ⟨rfl, rfl, rfl, by decide +kernel, rfl, by decide +kernel, by decide +kernel⟩
def Lf.text : Lf → Str
  | .i n => Str.ofString (toString n)
  | .b true => "yes"
  | .b false => "no"
def txt : Tr → Str
  | .lf v => Lf.text v
  | .nd n y o => Str.empty ++ "(" ++ Str.ofString (toString n) ++ " ? " ++ txt y ++ " : " ++ txt o ++ ")"
/-- numbers and values that have texts -/
def Sm : Tr → Prop
  | .lf (.i n) => n.natAbs.log2 < 1920
  | .lf (.b _) => True
  | .nd n y o => n.natAbs.log2 < 1920 ∧ Sm y ∧ Sm o
theorem num_len {n : Int} (h : n.natAbs.log2 < 1920) : (Str.ofString (toString n)).length ≤ 1921 := by
  rw [PySem.ofString_length]
  exact PySem.int_text_length_le (by decide) h
theorem txt_len : ∀ {t : Tr}, Sm t → (txt t).length + 2000 ≤ 4000 * 2 ^ t.dep
  | .lf (.i n), h => by
    have : (Str.ofString (toString n)).length ≤ 1921 := num_len h
    show (Str.ofString (toString n)).length + 2000 ≤ 4000 * 1
    omega
  | .lf (.b true), _ => by decide
  | .lf (.b false), _ => by decide
  | .nd n y o, h => by
    have h1 := num_len h.1
    have h2 := txt_len h.2.1
    have h3 := txt_len h.2.2
    show (Str.empty ++ "(" ++ Str.ofString (toString n) ++ " ? " ++ txt y ++ " : " ++ txt o ++ ")" : Str).length + 2000 ≤ 4000 * 2 ^ (max y.dep o.dep + 1)
    simp only [Str.length_append]
    have p1 : 2 ^ y.dep ≤ 2 ^ (max y.dep o.dep) := Nat.pow_le_pow_right (by decide) (by omega)
    have p2 : 2 ^ o.dep ≤ 2 ^ (max y.dep o.dep) := Nat.pow_le_pow_right (by decide) (by omega)
    have c1 : Str.length Str.empty = 0 := rfl
    have c2 : Str.length (Str.ofString "(") = 1 := by decide
    have c3 : Str.length (Str.ofString " ? ") = 3 := by decide
    have c4 : Str.length (Str.ofString " : ") = 3 := by decide
    have c5 : Str.length (Str.ofString ")") = 1 := by decide
    rw [c1, c2, c3, c4, c5, Nat.pow_succ]
    omega
theorem txt_fits {t : Tr} (h : Sm t) (d : t.dep ≤ 12) : (txt t).length ≤ sizeLine := by
  have := txt_len h
  have p : 2 ^ t.dep ≤ 2 ^ 12 := Nat.pow_le_pow_right (by decide) d
  have e : sizeLine = 16777216 := rfl
  rw [e]
  omega
def spText (m : Nat) : Sp := fun vs H Q _ => ∃ (v : V) (t : Tr), vs = [v] ∧ Tv H v t ∧ t.dep < m ∧ t.dep ≤ 12 ∧ Sm t ∧ Q (.str (txt t)) H
section
variable {P : Program} {w : World} {K : PySem.W.Frag} {mg : Str → Option Value} {base : Heap}
theorem ok_text {f : Addr} {fd : FuncData} (F : Fun K "tree_text" "tree_text" sText f fd) (T : GloW mg) (dl : Df P w K mg base "is_leaf" 1 ["tree"] spLeaf) (hm : mg "tree_text" = some (.ref f)) :
    ∀ m, FnOk P w K mg base CX0 (2 + m) f fd ["tree"] (spText m) := by
  intro m
  induction m with
  | zero =>
    refine F.ok scText (k := 1) (fun vs H Q E h => ?_) (fun cdv A outer s H vs Q E hr h => ?_)
    · obtain ⟨v, t, rfl, _⟩ := h
      rfl
    · obtain ⟨v, t, rfl, _, hl, _⟩ := h
      omega
  | succ m IH =>
    have ih : Df P w K mg base "tree_text" (2 + m) ["tree"] (spText m) := ⟨f, fd, IH, hm, F.kp, F.binds fun _ _ _ _ _ _ us hl => match us, hl with | [_], _ => rfl⟩
    refine F.ok scText (k := 2 + m) (fun vs H Q E h => ?_) (fun cdv A outer s H vs Q E hr h => ?_)
    · obtain ⟨v, t, rfl, _⟩ := h
      rfl
    · obtain ⟨v, t, rfl, hv, hl, h12, sm, q⟩ := h
      refine ⟨_, (pss_cons (ps_if (pt_val (pe_df (E := E0) dl (hr.mono (by omega)) (by rfl) (pa_cons (pv 0) pa_nil))) (pss_one (ps_ret (pe_ifExp (pt_val (pe_callB (id := "isinstance") (show CallR _ (.builtin "isinstance") (rIsi K) from call_isi) (by rfl) T.isinstance (by decide +kernel) (pa_cons (pv 0) (pa_cons (pe_bltn (v := .ty "bool") (by rfl) T.bool (by decide +kernel) rfl) pa_nil)))) (pe_ifExp (pt_val (pv 0)) pe_str pe_str) (pe_callTy call_str_int (by rfl) T.str (by decide +kernel) (pa_cons (pv 0) pa_nil))))) pss_nil)
      (pss_cons (ps_asg (pv 0) (pg_tup rfl (pgs_cons (pg_name (i := 1) scText.nd rfl (Or.inl rfl)) (pgs_cons (pg_name (i := 2) scText.nd rfl (Or.inl rfl)) (pgs_cons (pg_name (i := 3) scText.nd rfl (Or.inl rfl)) pgs_nil)))))
      (pss_one (ps_ret (pe_joined (PJ.cons pe_str (PJ.cons (pe_fmt (pv 1)) (PJ.cons pe_str (PJ.cons (pe_fmt (pe_df (E := E0) ih hr (by rfl) (pa_cons (pv 2) pa_nil))) (PJ.cons pe_str (PJ.cons (pe_fmt (pe_df (E := E0) ih hr (by rfl) (pa_cons (pv 3) pa_nil))) (PJ.cons pe_str PJ.nil)))))))))))), ?_⟩
      refine ⟨_, rfl, _, t, rfl, hv, _, rfl, ?_⟩
      cases t with
      | lf l =>
        obtain rfl := hv.lf_of
        cases l with
        | i n => exact ⟨_, rfl, _, _, _, _, _, rfl, .ty "bool", .base (.int n), kit_ty (r := false) (by decide +kernel), _, rfl, _, rfl, _, rfl, sm, q⟩
        | b n =>
          refine ⟨_, rfl, _, _, _, _, _, rfl, .ty "bool", .base (.bl n), kit_ty (r := true) (by decide +kernel), _, rfl, _, rfl, _, rfl, ?_⟩
          cases n with
          | true => exact q
          | false => exact q
      | nd n ty to =>
        have fit := txt_fits sm h12
        obtain ⟨a, y, o, rfl, h1, h2, h3⟩ := hv.nd_of
        have hl : max ty.dep to.dep + 1 < m + 1 := hl
        have h12 : max ty.dep to.dep + 1 ≤ 12 := h12
        obtain ⟨sn, sy, so⟩ := sm
        refine ⟨_, rfl, a, _, rfl, SqT.of h1, rfl, _, _, rfl, _, _, rfl, _, _, rfl, rfl, ?_⟩
        have fy := txt_fits sy (by omega)
        have fo := txt_fits so (by omega)
        have all : (Str.empty ++ "(" ++ Str.ofString (toString n) ++ " ? " ++ txt ty ++ " : " ++ txt to ++ ")" : Str).length ≤ sizeLine := fit
        have pre : ∀ {a b : Str}, (a ++ b).length ≤ sizeLine → a.length ≤ sizeLine := fun {a b} z => by rw [Str.length_append] at z; omega
        have a6 := pre all
        have a5 := pre a6
        have a4 := pre a5
        have a3 := pre a4
        have a2 := pre a3
        have a1 := pre a2
        refine ⟨_, rfl, a1, _, rfl, .inr ⟨n, rfl, sn, _, rfl, a2, _, rfl, a3, ?_⟩⟩
        refine ⟨_, rfl, y, ty, rfl, h2, by omega, by omega, sy, .inl ⟨_, rfl, fy, _, rfl, a4, _, rfl, a5, ?_⟩⟩
        refine ⟨_, rfl, o, to, rfl, h3, by omega, by omega, so, .inl ⟨_, rfl, fo, _, rfl, a6, _, rfl, all, q⟩⟩
end
end Law
set_option Elab.async false
set_option linter.all false
set_option maxRecDepth 100000
set_option maxHeartbeats 4000000
namespace Cor
open PySem PySem.Spec PyProof.Rows
section
variable {M : Model} {A : Around} {E : Value → Shared → Prop} {h : Heap} {g : Array GenState} {d : Drawn} {t : Nat} {os : OsState}
variable {nm q : Str} {C N : Addr} {bs bm bmB : List Value} {hdct : Bool} {sn : List Str} {sub : List Value} {ab : Bool} {col : Option Bool} {dd : Option Addr} {k0 k1 k2 k3 k5 : Option Value} {B newId initId : String}
/-- B.__new__(C, .., k = v) is asked rightly -/
theorem new_chk (F : ExcBaseFacts B newId initId bmB) (hb : bm.contains (.type B) = true) {rest : List Value} {kw : List (Str × Value)} {Q : Unit → Shared → Prop}
    (hC : h.get? C = some (excClassObj nm q C N bs bm hdct sn sub ab col dd k0 k1 k2 k3 k5 newId)) (hq : Q () ⟨h, g, d, t, os⟩) :
    wpAny M A (checkBuiltinCall newId ⟨.ref C :: rest, kw⟩) Q E ⟨h, g, d, t, os⟩ := by
  have inB : (Value.ref C :: bm).contains (.type B) = true := by rw [List.contains_cons, hb, Bool.or_true]
  have notStar := F.noStar
  simp only [checkBuiltinCall, F.newKind, F.newSplit, F.newRow]
  repeat (first
    | refine wpAny_loadPart_at hC ?_
    | (refine wpAny_isSubtype_exc hC ?_; rw [inB])
    | refine wpAny_staticBase_exc hC ?_
    | refine wpAny_madeBy_exc hC ?_
    | simp only [bne_self_eq_false, Bool.false_eq_true, if_false]
    | wp_step)
  exact hq
end
section
variable {prog : Program} {w : World} {A : Around} {E : Value → Shared → Prop} {R : Result → Shared → Prop} {h : Heap} {g : Array GenState} {d : Drawn} {t : Nat} {os : OsState}
variable {nm q : Str} {C N : Addr} {bs bm bmB : List Value} {hdct : Bool} {sn : List Str} {sub : List Value} {ab : Bool} {col : Option Bool} {dd : Option Addr} {k0 k1 k2 k3 k5 : Option Value} {B newId initId : String}
/-- what is asked of the class's line of bases -/
structure Line (B : String) (bm : List Value) : Prop where
  has : bm.contains (.type B) = true
  noA : bm.contains (.type "AttributeError") = false
  noN : bm.contains (.type "NameError") = false
theorem new_run (F : ExcBaseFacts B newId initId bmB) (L : Line B bm) {rest : List Value} {kw : List (Str × Value)}
    (hC : h.get? C = some (excClassObj nm q C N bs bm hdct sn sub ab col dd k0 k1 k2 k3 k5 newId))
    (hq : R (.ok (.ret (.ref (h.objs.size + 1)))) ⟨(h.push (W.kdv_tup rest)).push (HandSPX.excO C h.objs.size), g, d, t, os⟩) (hrest : rest.length ≤ sizeLine) :
    codeAny (model prog w) A (.builtin newId ⟨.ref C :: rest, kw⟩) R ⟨h, g, d, t, os⟩ := by
  have atEnd := F.ends
  have inB : (Value.ref C :: bm).contains (.type B) = true := by rw [List.contains_cons, L.has, Bool.or_true]
  have inA : (Value.ref C :: bm).contains (.type "AttributeError") = false := by rw [List.contains_cons, L.noA]; rfl
  have inN : (Value.ref C :: bm).contains (.type "NameError") = false := by rw [List.contains_cons, L.noN]; rfl
  refine codeAny_builtinAt F.entry ?_
  unfold Builtin.«BaseException.__new__»
  refine PySem.wpAt_bind ?_
  show PySem.wpAt _ _ _ (stack >>= _) _ _ _
  refine PySem.wpAt_bind (PySem.wpAt_stack fun p below => PySem.wpAt_of_wpAny ?_)
  wp_walk
  refine PySem.wpAt_of_wpAny ?_
  rw [F.owner]
  repeat (first
    | with_reducible refine wpAny_madeHere_exc F.canon hC ?_
    | with_reducible refine wpAny_loadPart_at hC ?_
    | (with_reducible refine wpAny_isSubtype_exc hC ?_; first | rw [inB] | rw [inA] | rw [inN])
    | wp_step)
  show R _ _
  rw [Heap.size_push]
  exact hq
theorem call_type (F : ExcBaseFacts B newId initId bmB) (L : Line B bm) {rest : List Value} {kw : List (Str × Value)} {fI : Addr} {Q : Fin → Shared → Prop}
    (hC : h.get? C = some (excClassObj nm q C N bs bm hdct sn sub ab col dd k0 k1 k2 k3 k5 newId))
    (hi : W.Looks (model prog w) h (typeLookup (.ref C) "__init__") (some (.ref fI))) (hb : ∀ self, W.Looks (model prog w) h (bindSpecial (.ref fI) self) (.ref fI, [self])) (hrest : rest.length ≤ sizeLine)
    (hq : codeAny (model prog w) A (.call (.ref fI) ⟨.ref (h.objs.size + 1) :: rest, kw⟩)
      (fun r s' => match r with | .ok (.ret v) => v = .none ∧ Q (.done (.ret (.ref (h.objs.size + 1)))) s' | .ok _ => False | .error e => E e s')
      ⟨(h.push (W.kdv_tup rest)).push (HandSPX.excO C h.objs.size), g, d, t, os⟩) :
    wpAny (model prog w) A (Builtin.«type.__call__» ⟨.ref C :: rest, kw⟩) Q E ⟨h, g, d, t, os⟩ := by
  repeat (first | with_reducible refine wpAny_loadPart_at hC ?_ | with_reducible refine wpAny_madeBy_exc hC ?_ | wp_step)
  refine codeAny_call_builtin_code (Code.quiet_builtin _ F.quiet) (new_chk F L.has hC ?_)
  refine new_run F L hC ?_ hrest
  show wpAny _ _ _ _ _ _
  have kp : ∀ b o, h.get? b = some o → ((h.push (W.kdv_tup rest)).push (HandSPX.excO C h.objs.size)).get? b = some o := fun b o e => Heap.get?_push_of_some _ (Heap.get?_push_of_some _ e)
  have hC2 := kp _ _ hC
  have hob : ((h.push (W.kdv_tup rest)).push (HandSPX.excO C h.objs.size)).get? (h.objs.size + 1) = some (HandSPX.excO C h.objs.size) := by heap_get
  have inC : (Value.ref C :: bm).contains (.ref C) = true := by simp
  have i2 := hi.keeps kp
  have b2 := (hb (.ref (h.objs.size + 1))).keeps kp
  unfold isInstance
  repeat (first | with_reducible refine wpAny_loadPart_at hob ?_ | (with_reducible refine wpAny_isSubtype_exc hC2 ?_; rw [inC]) | wp_step)
  show wpAny _ _ (typeLookup (.ref C) _) _ _ _
  refine i2.at ?_
  refine wpAny_holding (wpAny_bind (b2.at ?_))
  refine wpAny_bind (wpAny_call (codeAny_mono hq fun r s' z => ?_))
  rcases r with e | (v | _ | _ | _) <;> first | exact z | exact z.elim | skip
  obtain ⟨rfl, z⟩ := z
  first
    | exact wpAny_pure (wpAny_pure z)
    | (wp_walk; exact z)
theorem call_cls (F : ExcBaseFacts B newId initId bmB) (L : Line B bm) {rest : List Value} {kw : List (Str × Value)} {fI : Addr}
    (hC : h.get? C = some (excClassObj nm q C N bs bm hdct sn sub ab col dd k0 k1 k2 k3 k5 newId))
    (hi : W.Looks (model prog w) h (typeLookup (.ref C) "__init__") (some (.ref fI))) (hb : ∀ self, W.Looks (model prog w) h (bindSpecial (.ref fI) self) (.ref fI, [self])) (hrest : rest.length ≤ sizeLine)
    (hq : codeAny (model prog w) (A.under (.builtin "type.__call__" ⟨.ref C :: rest, kw⟩)) (.call (.ref fI) ⟨.ref (h.objs.size + 1) :: rest, kw⟩) (W.InitBack (h.objs.size + 1) R)
      ⟨(h.push (W.kdv_tup rest)).push (HandSPX.excO C h.objs.size), g, d, t, os⟩) :
    codeAny (model prog w) A (.call (.ref C) ⟨rest, kw⟩) R ⟨h, g, d, t, os⟩ := by
  have f1 := tc_lookup
  have f2 := tc_bind (.ref C)
  have hTy : (⟨h, g, d, t, os⟩ : Shared).TypeIs (.ref C) "type" := ⟨_, hC, rfl⟩
  refine codeAny_of_tree ?_
  show wpAny _ _ (callAny (.ref C) _) _ _ _
  repeat (any_goals (first | assumption | with_reducible refine wpAny_loadPart_at hC ?_ | wp_step))
  refine ⟨rfl, ?_⟩
  refine codeAny_call_builtin_at (Code.quiet_builtin _ (by decide +kernel)) entry_typeCall (wpAny_check_type_call_sub hC (call_type F L hC hi hb hrest ?_))
  refine codeAny_mono hq fun r s' z => ?_
  rcases r with e | (v | _ | _ | _) <;> exact z
end
end Cor
set_option Elab.async false
set_option linter.all false
set_option maxRecDepth 100000
set_option maxHeartbeats 4000000
namespace Cor
open PySem PySem.Spec PyProof.Rows L2
structure IniF (Bi initId : String) : Prop where
  plain : plainId initId = true
  entry : entryFor table initId = some Builtin.«BaseException.__init__»
  split : splitId initId = some (Bi, "__init__")
  kind : builtinKind initId = some .slot
  row : Manifest.signature? initId = some ⟨.positional, "*", Bi, .self, [⟨"args", .varPos, false⟩]⟩
  star : (Bi != "*") = true
theorem IniF.of {B n i : String} (F : ExcCallFacts B n i) : IniF B i := ⟨F.init.plain, F.initEntry, F.initSplit, F.initKind, F.initRow, F.noStar⟩
/-- a line of bases without the program's own classes in front -/
def strip : List Value → List Value
  | .ref _ :: r => strip r
  | l => l
theorem strip_cont (Y : String) : ∀ l : List Value, l.contains (.type Y) = (strip l).contains (.type Y)
  | [] => rfl
  | v :: r => by
    cases v with
    | ref c =>
      rw [List.contains_cons]
      show ((Value.type Y == Value.ref c) || r.contains (.type Y)) = (strip r).contains (.type Y)
      rw [← strip_cont Y r]
      rfl
    | _ => rfl
theorem strip_pass (self : Value) (n : Str) : ∀ l : List Value, refuseLoop self n (strip l) = pure () → refuseLoop self n l = pure ()
  | [], h => h
  | v :: r, h => by
    cases v with
    | ref c =>
      rw [refuseLoop_ref]
      exact strip_pass self n r h
    | _ => exact h
/-- what a tail of built-in bases must say -/
structure Bas (Bn newId Bi initId : String) (tl : List Value) : Prop where
  nw : ∃ i bmB, ExcBaseFacts Bn newId i bmB
  ini : IniF Bi initId
  line : Line Bn tl
  hasI : tl.contains (.type Bi) = true
  ob : tl.contains (.type "object") = true
  pass : ∀ self, refuseLoop self "__setattr__" tl = pure ()
theorem bas_value : Bas "ValueError" "ValueError.__new__" "ValueError" "ValueError.__init__" [.type "ValueError", .type "Exception", .type "BaseException", .type "object"] :=
  ⟨⟨_, _, F.excBase_ValueError⟩, .of F.excBase_ValueError.toExcCallFacts, ⟨by decide +kernel, by decide +kernel, by decide +kernel⟩, by decide +kernel, by decide +kernel, F.store_ValueError.passes⟩
/-- C is an exception class of the program -/
structure Exn (K : PySem.W.Frag) (C : Addr) (newId initId : String) : Prop where
  cls : ∃ Bn Bi nm q N bs bm sn sub ab col dd k0 k1 k2 k3 k5, Bas Bn newId Bi initId (strip bm) ∧ K.lookup C = some (excClassObj nm q C N bs bm true sn sub ab col dd k0 k1 k2 k3 k5 newId)
  sa : PySem.W.findIn K (.ref C) "__setattr__" = some (some (.builtin "object.__setattr__"))
  exC : PySem.W.subIn K (.ref C) (.type "BaseException") = some true
  tyC : PySem.W.typeIn K (.ref C) = some (.type "type")
  kC : PySem.W.keepIn K (.ref C) = true
  ga : PySem.W.findIn K (.ref C) "__getattribute__" = some (some (.builtin "BaseException.__getattribute__"))
  gg : PySem.W.findIn K (.ref C) "__getattr__" = some none
  hd : PySem.W.hasDictIn K C = true
  ca : PySem.W.findIn K (.ref C) "__class__" = some (some (.builtin "object.__class__"))
  mr : PySem.W.mroIn K C (.type "object") = some true
  cn : PySem.W.specialIn K (.builtin "object.__class__") "__get__" = some (some (.builtin "getset_descriptor.__get__"))
  ct : PySem.W.takesIn K (.builtin "object.__class__") = some true
/-- the written part's share of it, as one question -/
def exnB (K : PySem.W.Frag) (C : Addr) : Bool :=
  (PySem.W.findIn K (.ref C) "__setattr__" == some (some (.builtin "object.__setattr__"))) && ((PySem.W.subIn K (.ref C) (.type "BaseException") == some true) && ((PySem.W.typeIn K (.ref C) == some (.type "type")) && (PySem.W.keepIn K (.ref C) &&
  ((PySem.W.findIn K (.ref C) "__getattribute__" == some (some (.builtin "BaseException.__getattribute__"))) && ((PySem.W.findIn K (.ref C) "__getattr__" == some none) && (PySem.W.hasDictIn K C &&
  ((PySem.W.findIn K (.ref C) "__class__" == some (some (.builtin "object.__class__"))) && ((PySem.W.mroIn K C (.type "object") == some true) &&
  ((PySem.W.specialIn K (.builtin "object.__class__") "__get__" == some (some (.builtin "getset_descriptor.__get__"))) && (PySem.W.takesIn K (.builtin "object.__class__") == some true))))))))))
theorem exn_mk {K : PySem.W.Frag} {C : Addr} {newId initId : String} {Bn Bi : String} {nm q : Str} {N : Addr} {bs bm : List Value} {sn : List Str} {sub : List Value} {ab : Bool} {col : Option Bool} {dd : Option Addr} {k0 k1 k2 k3 k5 : Option Value} {tl : List Value}
    (b : Bas Bn newId Bi initId tl) (l : K.lookup C = some (excClassObj nm q C N bs bm true sn sub ab col dd k0 k1 k2 k3 k5 newId)) (s : strip bm = tl) (h : exnB K C = true) : Exn K C newId initId := by
  unfold exnB at h
  simp only [Bool.and_eq_true, beq_iff_eq] at h
  obtain ⟨h1, h2, h3, h4, h5, h6, h7, h8, h9, h10, h11⟩ := h
  subst s
  exact ⟨⟨_, _, _, _, _, _, _, _, _, _, _, _, _, _, _, _, _, b, l⟩, h1, h2, h3, h4, h5, h6, h7, h8, h9, h10, h11⟩
section
variable {prog : Program} {w : World} {A : Around} {E : Value → Shared → Prop} {R : Result → Shared → Prop} {hp : Heap} {g : Array GenState} {d : Drawn} {t : Nat} {os : OsState}
theorem first_field {K : W.Frag} {name : Str} {tk : Tok} {v : Value} {x C : Addr} {fv : Array Value} {cd : ClassData}
    (X : K.In hp) (hx : hp.get? x = some { cls := .ref C, data := .fields fv }) (hcd : W.clsIn K C = some cd) (hob : cd.mro.contains (.type "object") = true) (hps : ∀ self, refuseLoop self "__setattr__" cd.mro = pure ())
    (hh : cd.hasDict = true) (ha : W.findIn K (.ref C) name = some none)
    (hq : ∀ h' tk' dx, (∀ b o, b ≠ x → hp.get? b = some o → h'.get? b = some o) → hp.objs.size ≤ dx → dx ≠ x → h'.get? x = some { cls := .ref C, dict := some dx, data := .fields fv } →
      h'.Ns1 dx (fun y => if y = name then some v else none) → R (.ok (.ret .none)) ⟨h', g, d, tk', os⟩) :
    codeAny (model prog w) A (.call (.builtin "object.__setattr__") ⟨[.ref x, .str name tk, v], []⟩) R ⟨hp, g, d, t, os⟩ := by
  have I : W.InstAt hp x { cls := .ref C, data := .fields fv } C none := ⟨hx, rfl, rfl, trivial⟩
  have SF := F.store_object
  have ne : cd.mro.isEmpty = false := by
    cases e : cd.mro with
    | nil => rw [e] at hob; cases hob
    | cons _ _ => rfl
  have xs : x ≠ hp.objs.size := Nat.ne_of_lt (Heap.lt_size hx)
  have isO : W.Looks (model prog w) hp (isInstance (.ref x) (.type "object")) true := I.type.andThen (W.looks_mroIn X (by unfold W.mroIn; rw [hcd, Option.bind_some, if_neg (by rw [ne]; decide), hob]))
  refine codeAny_call_builtin SF.slot.plain SF.entry (@W.check_slot (model prog w) _ _ ⟨hp, g, d, t, os⟩ "object.__setattr__" "object" "__setattr__" (.ref x) [.str name tk, v] [] _ SF.kind SF.split isO (SF.args (.ref x) (.str name tk) v) ?_)
  have lm : W.Looks (model prog w) hp (mroOf (.ref C)) cd.mro := (W.looks_clsIn X hcd).andThen .now
  have l0 : W.Looks (model prog w) hp (Builtin.ObjectAttr.storeTaker? none) none := .now
  have lc : W.Looks (model prog w) hp (classData C) cd := W.looks_clsIn X hcd
  rw [W.osa_eq, refuse_eq]
  refine wpAny_bind (wpAny_bind (I.type.at (wpAny_bind (lm.at ?_))))
  rw [hps]
  refine wpAny_pure (wpAny_bind (I.type.at (wpAny_bind ((W.looks_findIn X ha).at (wpAny_bind (l0.at ?_))))))
  show wpAny _ _ (Builtin.ObjectAttr.storeInOwnDict (.ref x) (.ref C) (.str name tk) name v false) _ _ _
  obtain ⟨nm, bs, mro, ns, qn, hd, sn, sb, ab, col, del⟩ := cd
  dsimp only at hh
  subst hh
  unfold Builtin.ObjectAttr.storeInOwnDict Builtin.ObjectAttr.ownDictForStores
  repeat (first | with_reducible refine HandSPX.store_in_new ?_ ?_ | with_reducible refine wpAny_loadPart_at hx ?_ | with_reducible refine lc.at ?_ | wp_step)
  · exact ⟨_, #[], _, (Heap.get?_update_ne _ _ _ _ xs.symm).trans (Heap.get?_push_at rfl rfl), rfl, fun e he => absurd he (by simp), fun _ => rfl⟩
  · intro h' tk' hn' hs
    have hx2 : (hp.push { cls := .type "dict", data := .dict #[] }).get? x = some { cls := .ref C, data := .fields fv } := Heap.get?_push_of_some _ hx
    refine hq h' tk' hp.objs.size (fun b o hb ho => ?_) (Nat.le_refl _) xs.symm ?_ hn'
    · exact (hs.2 b (Nat.ne_of_lt (Heap.lt_size ho))).trans ((Heap.get?_update_ne _ _ _ _ hb).trans (Heap.get?_push_of_some _ ho))
    · exact (hs.2 x xs).trans (Heap.get?_update_self _ hx2 rfl)
variable {nm q : Str} {C N : Addr} {bs bm : List Value} {hdct : Bool} {sn : List Str} {sub : List Value} {ab : Bool} {col : Option Bool} {dd : Option Addr} {k0 k1 k2 k3 k5 : Option Value} {newId : String}
theorem init_run {Bi initId : String} (F : IniF Bi initId) (hI : bm.contains (.type Bi) = true) {e t0 : Addr} {rest : List Value}
    (hC : hp.get? C = some (excClassObj nm q C N bs bm hdct sn sub ab col dd k0 k1 k2 k3 k5 newId)) (he : hp.get? e = some (HandSPX.excO C t0)) (hrest : rest.length ≤ sizeLine)
    (hq : ∀ h' t1, (∀ b o, b ≠ e → hp.get? b = some o → h'.get? b = some o) → h'.get? e = some (HandSPX.excO C t1) → R (.ok (.ret .none)) ⟨h', g, d, t, os⟩) :
    codeAny (model prog w) A (.call (.builtin initId) ⟨.ref e :: rest, []⟩) R ⟨hp, g, d, t, os⟩ := by
  refine codeAny_call_builtin F.plain F.entry ?_
  have inB : (Value.ref C :: bm).contains (.type Bi) = true := by rw [List.contains_cons, hI, Bool.or_true]
  have short := F.star
  simp only [checkBuiltinCall, F.kind, F.split, F.row]
  repeat (first | (with_reducible refine wpAny_loadPart_at he ?_) | with_reducible refine wpAny_loadPart_at hC ?_ | (with_reducible refine wpAny_isSubtype_exc hC ?_; rw [inB]) | wp_step)
  refine wpAny_onRaise ?_
  rw [show ∀ (a b : String) (n : Nat), Bind.check ⟨.positional, "*", Bi, .self, [⟨"args", .varPos, false⟩]⟩ a b n (List.map (fun x => x.fst) ({ pos := Value.ref e :: rest } : Args).kw) = pure () from
    fun a b n => check_star_args _ _ _ _ _ _]
  refine wpAny_pure ?_
  wp_walk
  refine hq _ hp.objs.size (fun b o hb ho => ?_) ?_
  · rw [Heap.get?_update_other _ _ (Ne.symm hb)]
    exact Heap.get?_push_of_some _ ho
  · rw [Heap.get?_update_self _ (Heap.get?_push_of_some _ he) rfl]
    rfl
end
end Cor
set_option Elab.async false
set_option linter.all false
set_option maxRecDepth 100000
set_option maxHeartbeats 400000
namespace Cor
open PySem PySem.Spec PyProof.Rows L2
section
variable {X : Cx} {pins : List (Addr × Obj)} {σ : L2.St} {H : Hp} {s : Shared} {a C : Addr} {f : Str} {y : V} {u : Value} {E : Value → Shared → Prop} {A : Around} {newId initId : String}
theorem cls_in (T : Exn X.K C newId initId) : ∃ Bn Bi cd bm, Bas Bn newId Bi initId (strip bm) ∧ PySem.W.clsIn X.K C = some cd ∧ cd.mro = .ref C :: bm ∧ cd.hasDict = true := by
  obtain ⟨Bn, Bi, nm, q, N, bs, bm, sn, sub, ab, col, dd, k0, k1, k2, k3, k5, b, l⟩ := T.cls
  refine ⟨Bn, Bi, { name := nm, bases := bs, mro := .ref C :: bm, ns := N, qualname := q, hasDict := true, slotNames := sn, subclasses := sub, abstract := ab, collection := col, hasDel := false }, bm, b, ?_, rfl, rfl⟩
  unfold PySem.W.clsIn
  rw [l] <;> rfl
/-- self.f = y on an exception that has no dict yet -/
theorem fld_new {Q : Unit → Shared → Prop} (T : Exn X.K C newId initId) (I : Inv X pins σ H s) (ea : H a = some (exo a C none)) (hno : PySem.W.findIn X.K (.ref C) f = some none) (ry : RelV y u)
    (h : ∀ dx s', H dx = none → dx ≠ a → Inv X pins σ (upd (upd H dx (exd dx [(f, y)])) a (exo a C (some dx))) s' → Q () s') : wpAny (model X.prog X.w) A (setAttr (.ref a) f u) Q E s := by
  obtain ⟨Bn, Bi, cd, bm, bas, hcl, hmro, hdict⟩ := cls_in T
  obtain ⟨t1, ho⟩ := exo_at I.hok ea
  obtain ⟨hp, g, d, t, os⟩ := s
  refine PySem.W.set_plain I.kIn (ox := { cls := .ref C, dict := none, data := .fields #[.ref t1, .none, .none, .none, .bool false, .none] }) (od := none) ⟨ho, rfl, rfl, trivial⟩ T.sa ?_
  refine first_field I.kIn ho hcl (by rw [hmro, List.contains_cons, strip_cont, bas.ob, Bool.or_true]) (fun self => by rw [hmro, refuseLoop_ref]; exact strip_pass _ _ _ (bas.pass self)) hdict hno (fun h' tk' dx k dn dne hx hn => ?_)
  have free : H dx = none := I.hok.fresh dn
  have nd : ∀ {b : Addr} {o : Obj}, hp.get? b = some o → b ≠ dx := fun {b o} z => Nat.ne_of_lt (Nat.lt_of_lt_of_le (Heap.lt_size z) dn)
  have na : ∀ {b : Addr}, H b = none → b ≠ a := fun {b} n z => by
    rw [z, ea] at n
    cases n
  have U : Un X.fs [] H (upd (upd H dx (exd dx [(f, y)])) a (exo a C (some dx))) hp h' := {
    keep := fun b o z n _ _ => k b o (na n) z
    slot := fun b o z n _ _ => ⟨o.slots, k b o (na n) z⟩
    free := fun b o z n _ => by rw [upd_ne (na n), upd_ne (nd z)]; exact n
    there := fun b o z _ => by
      by_cases hb : b = a
      · exact ⟨_, by rw [hb]; exact hx⟩
      · exact ⟨o, k b o hb z⟩
    tups := fun b xs z => by rw [upd_ne (at_ne ea z exo_tup), upd_ne (ne_of_none z free)]; exact z
    frzs := fun b o v z => by rw [upd_ne (at_ne ea z exo_frz), upd_ne (ne_of_none z free)]; exact z
    tbls := fun b ps z => ⟨#[], by rw [upd_ne (at_ne ea z exo_tbl), upd_ne (ne_of_none z free), z]; simp⟩ }
  refine h dx _ free dne (I.un (t' := tk') U fun b o z => ?_)
  by_cases hb : b = a
  · subst hb
    rw [upd_same] at z
    cases z
    exact exo_ok hx
  · rw [upd_ne hb] at z
    by_cases hd : b = dx
    · subst hd
      rw [upd_same] at z
      cases z
      exact exd_ok hn (relO_put (fs := []) ry fun g => True.intro)
    · rw [upd_ne hd] at z
      refine (I.hok b o z).stay (fun c v hc z' => k c v ?_ z') (fun c hc => ?_) (fun c xs hc => ?_)
      · rcases hc with hc | hc
        · rw [hc]
          exact hb
        · exact at_ne ea hc exo_own
      · rw [upd_ne (at_ne ea hc exo_own), upd_ne (ne_of_none hc free)]
        exact hc
      · rw [upd_ne (at_ne ea hc exo_tup), upd_ne (ne_of_none hc free)]
        exact hc
/-- B.__init__(self, ..) -/
theorem ini_ok {us : List Value} {Q : Value → Shared → Prop} (T : Exn X.K C newId initId) (I : Inv X pins σ H s) (ea : H a = some (exo a C none)) (hl : us.length ≤ sizeLine) (h : ∀ s', Inv X pins σ H s' → Q .none s') :
    wpAny (model X.prog X.w) A (call (.builtin initId) (.ref a :: us)) Q E s := by
  obtain ⟨Bn, Bi, nm, q, N, bs, bm, sn, sub, ab, col, dd, k0, k1, k2, k3, k5, b, l⟩ := T.cls
  obtain ⟨t1, ho⟩ := exo_at I.hok ea
  obtain ⟨hp, g, d, t, os⟩ := s
  refine wpAny_call (init_run b.ini (by rw [strip_cont]; exact b.hasI) (I.kIn _ _ l) ho hl fun h' t2 k hx => ?_)
  have J := I.write (t' := t) (x := a) (e := a) (o := exo a C none) (by rw [ea]; exact True.intro) (.inl rfl) k ⟨_, hx⟩ (exo_ok hx)
  have same : upd H a (exo a C none) = H := by
    funext b
    by_cases hb : b = a
    · rw [hb, upd_same, ea]
    · rw [upd_ne hb]
  rw [same] at J
  exact h _ J
end
def tIni (K : PySem.W.Frag) (initId : String) (ta : TA) : TE := fun σ H Q => ta σ H fun vs H1 => ∃ (a C : Addr) (newId : String) (ws : List V), vs = .ref a :: ws ∧ ws.length ≤ 1000 ∧ Exn K C newId initId ∧ H1 a = some (exo a C none) ∧ Q .non H1
/-- self.f = e, the first field -/
def tFld1 (K : PySem.W.Frag) (f : Str) (to te : TE) : TS := fun D σ H => te σ H fun y H1 => to σ H1 fun x H2 => ∃ (a C : Addr) (newId initId : String), x = .ref a ∧ Exn K C newId initId ∧ PySem.W.findIn K (.ref C) f = some none ∧
  H2 a = some (exo a C none) ∧ ∀ dx, H2 dx = none → dx ≠ a → D.nx σ (upd (upd H2 dx (exd dx [(f, y)])) a (exo a C (some dx)))
section
variable {X : Cx} {o e : Expr} {es : List Expr} {to te : TE} {ta tk : TA} {f x : Str} {p p' p1 p2 pos : Pos} {newId initId : String}
theorem ini_end {pins : List (Addr × Obj)} {σ : L2.St} {Q : VK} {H : Hp} {us : List Value} {vs : List V} {s : Shared} (I : Inv X pins σ H s) (r : Vals vs us)
    (h : ∃ (a C : Addr) (newId : String) (ws : List V), vs = .ref a :: ws ∧ ws.length ≤ 1000 ∧ Exn X.K C newId initId ∧ H a = some (exo a C none) ∧ Q .non H) :
    wpAny (model X.prog X.w) X.A (call (.builtin initId) us) (EP X pins σ Q) X.xe s := by
  obtain ⟨a, C, newId, ws, ev, hl, T, ea, q⟩ := h
  subst ev
  cases r with
  | @cons _ u0 _ ur ra rr =>
    obtain rfl : u0 = Value.ref a := ra
    have hlen : ur.length ≤ sizeLine := by
      rw [← Paired.length rr, sizeLine_eq]
      omega
    exact ini_ok T I ea hlen fun s' J => ⟨.non, H, J, rfl, q⟩
/-- S.__init__(self, ..), S an own class -/
theorem pe_iniO {pl : Sem Bool} {S : Addr} {mc : Value} (hg : Gl X x) (hm : X.mg x = some (.ref S)) (rd : ClX.CRead X.K S mc) (vS : PySem.W.findCls X.K (.ref S) mc "__init__" = some (.val (.builtin initId))) (ha : PA X (e :: es) ta)
    (hdb : (x == ("__debug__" : Str)) = false := by decide) (hh : PySem.W.handedIn (.builtin initId) = true := by decide +kernel)
    (hc : eval (.Call (.Attribute (.Name x p1) "__init__" p2) (e :: es) [] pos) X.env = (do
      let ov ← eval (.Name x p1) X.env
      standAt p2.atName
      let (f, first) ← holding [ov] (getMethod ov "__init__" pl)
      callWith pos f first (backTo pos (starEach (e :: es) X.env)) (backToKw pos (keywordEach [] X.env))) := by rfl)
    (he : starEach (e :: es) X.env = (false, eval e X.env) :: starEach es X.env := by rfl) (hpl : (backTo pos (starEach es X.env)).any (·.1) = false := by rfl) :
    PE X (.Call (.Attribute (.Name x p1) "__init__" p2) (e :: es) [] pos) (tIni X.K initId ta) := by
  refine ⟨fun pins s σ H Q I h => ?_⟩
  refine PySem.W.methodCall_KW (ld_glob I hg hm ?_ hdb) hc
  refine PySem.W.method_cls I.kIn rd.ga (PySem.W.cls_value I.kIn rd.rd vS hh ?_)
  refine PyProof.Rows.callWith_method1 (thn (ha.run pos pins _ σ H _ (I.tok _) h) fun us s1 ⟨vs, H1, I1, r1, q⟩ => ?_) he hpl
  exact ini_end I1 r1 q
theorem ps_fld1 (ho : PE X o to) (he : PE X e te) (hs : swapsWith e (some (.Attribute o f p')) pos.line X.env = pure false := by rfl) : PS X (.Assign [.Attribute o f p'] e pos) (tFld1 X.K f to te) := by
  refine ⟨fun pins s σ H D I h => ?_⟩
  refine plainObj_wpAny_Assign_Attribute (thn (he.run pins s σ H _ I h) fun v s1 ⟨y, H1, I1, r1, q1⟩ => thn (ho.run pins s1 σ H1 _ I1 q1) fun u s2 ⟨x, H2, I2, r2, a, C, n, i, ex, T, hno, ea, q⟩ => ?_) hs
  subst ex
  obtain rfl : u = Value.ref a := r2
  exact fld_new T I2 ea hno r1 fun dx s' n ne J => ⟨σ, _, J, q dx n ne⟩
end
end Cor
set_option Elab.async false
set_option linter.all false
set_option maxRecDepth 100000
set_option maxHeartbeats 1000000
namespace Cor
open PySem PySem.Spec PyProof.Rows L2
theorem _root_.L2.PE.imp {X : Cx} {e : Expr} {t t' : TE} (h : PE X e t) (i : ∀ σ H Q, t' σ H Q → t σ H Q) : PE X e t' := ⟨fun pins s σ H Q I q => h.run pins s σ H Q I (i σ H Q q)⟩
def tMono (t : TE) : TE := fun σ H Q => ∃ R : VK, t σ H R ∧ ∀ v H', R v H' → Q v H'
theorem _root_.L2.PE.up {X : Cx} {e : Expr} {t : TE} (h : PE X e t) : PE X e (tMono t) :=
  ⟨fun pins s σ H Q I ⟨R, q, up⟩ => thn (h.run pins s σ H R I q) fun u s' ⟨v, H', J, r, z⟩ => ⟨v, H', J, r, up v H' z⟩⟩
/-- an exception of the class at C, with the one field f -/
def ExV (H : Hp) (a C : Addr) (f : Str) (v : V) : Prop := ∃ dx, H a = some (exo a C (some dx)) ∧ H dx = some (exd dx [(f, v)])
theorem ExV.same {H H' : Hp} {a C : Addr} {f : Str} {v : V} (s : Same H H') (h : ExV H a C f v) : ExV H' a C f v := let ⟨dx, h1, h2⟩ := h; ⟨dx, s _ _ h1, s _ _ h2⟩
def spInit (C : Addr) (f : Str) : Sp := fun vs H Q _ => ∃ (a : Addr) (v : V), vs = [.ref a, v] ∧ H a = some (exo a C none) ∧ ∀ dx, H dx = none → dx ≠ a → Q .non (upd (upd H dx (exd dx [(f, v)])) a (exo a C (some dx)))
/-- the exception class x of the text, whose __init__ keeps its one argument in f -/
def Xcl (P : Program) (w : World) (K : PySem.W.Frag) (mg : Str → Option Value) (base : Heap) (x : Str) (C : Addr) (f : Str) : Prop :=
  ∃ n i fI fd, Exn K C n i ∧ PySem.W.findIn K (.ref C) "__init__" = some (some (.ref fI)) ∧ PySem.W.typeIn K (.ref fI) = some (.type "function") ∧ FnOk P w K mg base CX0 1 fI fd ["self", f] (spInit C f) ∧ Binds K fd ["self", f] [] ∧
    (∀ (s : Shared) (a : Addr) (u : Value), K.In s.heap → BindsTo s fd ⟨[.ref a], [(f, u)]⟩ ((["self", f] : List Str).zip [.ref a, u])) ∧ mg x = some (.ref C) ∧ PySem.W.findIn K (.ref C) f = some none
end Cor
set_option Elab.async false
set_option linter.all false
set_option maxRecDepth 100000
set_option maxHeartbeats 1000000
namespace Law
open PySem PySem.Spec PyProof.Rows L2 Cor
def inClass (s : Stmt) (j : Nat) : Stmt := match s with
  | .ClassDef _ _ _ b _ _ _ _ _ _ _ => b.getD j (.Pass ⟨0, 0, 0, 0⟩)
  | _ => .Pass ⟨0, 0, 0, 0⟩
abbrev sWInit : Stmt := inClass (topS 31) 0
theorem scWInit : FnScope ["self", "tree"] ["self", "tree"] (defScope sWInit) := ⟨rfl, rfl, rfl, by decide +kernel, rfl, by decide +kernel, by decide +kernel⟩
abbrev sWOf : Stmt := inClass (topS 31) 1
theorem scWOf : FnScope ["value"] ["value"] (defScope sWOf) := ⟨rfl, rfl, rfl, by decide +kernel, rfl, by decide +kernel, by decide +kernel⟩
abbrev sWEither : Stmt := inClass (topS 31) 2
theorem scWEither : FnScope ["number", "yes", "no", "held", "failed"] ["number", "yes", "no"] (defScope sWEither) := ⟨rfl, rfl, rfl, by decide +kernel, rfl, by decide +kernel, by decide +kernel⟩
abbrev sWWords : Stmt := inClass (topS 31) 4
theorem scWWords : FnScope ["self"] ["self"] (defScope sWWords) := ⟨rfl, rfl, rfl, by decide +kernel, rfl, by decide +kernel, by decide +kernel⟩
abbrev sWPlain : Stmt := inClass (topS 31) 5
theorem scWPlain : FnScope ["self"] ["self"] (defScope sWPlain) := ⟨rfl, rfl, rfl, by decide +kernel, rfl, by decide +kernel, by decide +kernel⟩
abbrev sWIsT : Stmt := inClass (topS 31) 6
theorem scWIsT : FnScope ["self"] ["self"] (defScope sWIsT) := ⟨rfl, rfl, rfl, by decide +kernel, rfl, by decide +kernel, by decide +kernel⟩
abbrev sWCall : Stmt := inClass (topS 31) 8
theorem scWCall : FnScope ["self", "words", "missing", "number"] ["self", "words"] (defScope sWCall) := ⟨rfl, rfl, rfl, by decide +kernel, rfl, by decide +kernel, by decide +kernel⟩
abbrev sWAdd : Stmt := inClass (topS 31) 10
theorem scWAdd : FnScope ["self", "other"] ["self", "other"] (defScope sWAdd) := ⟨rfl, rfl, rfl, by decide +kernel, rfl, by decide +kernel, by decide +kernel⟩
abbrev sWEq : Stmt := inClass (topS 31) 23
theorem scWEq : FnScope ["self", "other"] ["self", "other"] (defScope sWEq) := ⟨rfl, rfl, rfl, by decide +kernel, rfl, by decide +kernel, by decide +kernel⟩
abbrev sWStr : Stmt := inClass (topS 31) 24
theorem scWStr : FnScope ["self"] ["self"] (defScope sWStr) := ⟨rfl, rfl, rfl, by decide +kernel, rfl, by decide +kernel, by decide +kernel⟩
abbrev sTreeOf : Stmt := topS 30
theorem scTreeOf : FnScope ["value"] ["value"] (defScope sTreeOf) := ⟨rfl, rfl, rfl, by decide +kernel, rfl, by decide +kernel, by decide +kernel⟩
/-- the worth with the tree t stands at a -/
def Wo (C : Addr) (H : Hp) (a : Addr) (t : Tr) : Prop := ∃ dx v, H a = some (.ins C dx [("tree", v)]) ∧ Tv H v t
theorem Wo.kp {C : Addr} {H H' : Hp} {a : Addr} {t : Tr} (k : Kp H H') (h : Wo C H a t) : Wo C H' a t := let ⟨dx, v, h1, h2⟩ := h; ⟨dx, v, k _ _ (fun _ z => by cases z) h1, h2.kp k⟩
/-- a worth or a plain value -/
def Given (C : Addr) (H : Hp) (x : V) (t : Tr) : Prop := (∃ a, x = .ref a ∧ Wo C H a t) ∨ ∃ l, x = Lf.v l ∧ t = .lf l
theorem Given.kp {C : Addr} {H H' : Hp} {x : V} {t : Tr} (k : Kp H H') (h : Given C H x t) : Given C H' x t := h.imp (fun ⟨a, e, h⟩ => ⟨a, e, h.kp k⟩) id
/-- the class Worth -/
structure WCl (K : PySem.W.Frag) (mg : Str → Option Value) (C : Addr) : Prop where
  nm : mg "Worth" = some (.ref C)
  cl : Cls K C
  nt : NoAttr K C "tree"
  ca : PySem.W.findIn K (.ref C) "__class__" = some (some (.builtin "object.__class__"))
  cn : PySem.W.specialIn K (.builtin "object.__class__") "__get__" = some (some (.builtin "getset_descriptor.__get__"))
  ct : PySem.W.takesIn K (.builtin "object.__class__") = some true
  cm : PySem.W.mroIn K C (.type "object") = some true
  kw : PySem.W.kitOne K (.ref C) (.ref C) = some true
  ki : PySem.W.kitOne K (.type "int") (.ref C) = some false
  kb : PySem.W.kitOne K (.type "bool") (.ref C) = some false
theorem WCl.ty {K : PySem.W.Frag} {mg : Str → Option Value} {C : Addr} (W : WCl K mg C) {H : Hp} {a : Addr} {t : Tr} (h : Wo C H a t) : TyX K H (.ref a) (.ref C) := let ⟨dx, v, h1, _⟩ := h; .base (.ins h1 W.cl W.ca W.cn W.ct W.cm)
def spInitW (C : Addr) : Sp := fun vs H Q _ => ∃ (a dx : Addr) (v : V), vs = [.ref a, v] ∧ H a = some (.ins C dx []) ∧ Q .non (upd H a (.ins C dx [("tree", v)]))
/-- what is made: Worth(e) -/
structure WMk (P : Program) (w : World) (K : PySem.W.Frag) (mg : Str → Option Value) (base : Heap) (C : Addr) : Prop extends WCl K mg C where
  made : ∃ f fd, Mk K C f ∧ FnOk P w K mg base CX0 1 f fd ["self", "tree"] (spInitW C) ∧ Binds K fd ["self", "tree"] []
def tNewW (C : Addr) (te : TE) : TE := fun σ H Q => te σ H fun v H1 => ∀ (a : Addr) (H' : Hp), Same H1 H' → H1 a = none → (∃ dx, H' a = some (.ins C dx [("tree", v)])) → Q (.ref a) H'
theorem pe_newW {X : Cx} {C : Addr} {e : Expr} {te : TE} {p pos : Pos} (W : WMk X.prog X.w X.K X.mg X.base C) (hr : Room 2 X.A) (hg : Gl X "Worth") (he : PE X e te) (hs : starEach [e] X.env = (false, eval e X.env) :: starEach [] X.env := by rfl) :
    PE X (.Call (.Name "Worth" p) [e] [] pos) (tNewW C te) := by
  obtain ⟨f, fd, M, F, b⟩ := W.made
  refine (pe_make (E := E0) M F hr hg W.nm b .nil pass0 (pa_cons he.up pa_nil hs) (by decide) hs rfl).imp fun σ H Q q => ?_
  refine ⟨_, q, fun v H1 z x dx nx nd ne => ⟨x, dx, v, rfl, upd_same, rfl, z x _ (fun b o e => ?_) nx ⟨dx, upd_same⟩⟩⟩
  rw [upd_ne (ne_of_none e nx), upd_ne (ne_of_none e nx), upd_ne (ne_of_none e nd)]
  exact e
def spTreeOf (C : Addr) : Sp := fun vs H Q _ => ∃ (x : V) (t : Tr), vs = [x] ∧ Given C H x t ∧ ∀ v, Tv H v t → Q v H
/-- a new worth t, with all that stood -/
def NewW (C : Addr) (H : Hp) (t : Tr) (Q : VK) : Prop := ∀ a H', Same H H' → H a = none → Wo C H' a t → Q (.ref a) H'
def spOf (C : Addr) : Sp := fun vs H Q _ => ∃ (x : V) (t : Tr), vs = [x] ∧ Given C H x t ∧ NewW C H t Q
def spEither (C : Addr) : Sp := fun vs H Q _ => ∃ (n : Int) (x y : V) (tx ty : Tr) (k : Bool) (B : Nat) (S : List Int), vs = [.int n, x, y] ∧ 1 ≤ n ∧ Given C H x tx ∧ Given C H y ty ∧ Asc S ∧ S.length ≤ 20 ∧ n ∈ S ∧ Cn (Lg k B) S tx ∧ Cn (Lg k B) S ty ∧
  ∀ t, Cn (Lg k B) S t → (∀ r : Rho, t.ev r = if r n = true then tx.ev r else ty.ev r) → NewW C H t Q
def spWords (C : Addr) : Sp := fun vs H Q _ => ∃ (a : Addr) (t : Tr) (k : Bool) (B : Nat) (S : List Int), vs = [.ref a] ∧ Wo C H a t ∧ Asc S ∧ S.length ≤ 20 ∧ Cn (Lg k B) S t ∧
  ∀ p H' ns, Same H H' → H' p = some (.tup (ns.map V.int)) → Asc ns → (∀ n, n ∈ ns ↔ n ∈ t.nums) → Q (.ref p) H'
def spPlain (C : Addr) : Sp := fun vs H Q _ => ∃ (a : Addr) (t : Tr), vs = [.ref a] ∧ Wo C H a t ∧ Q (match t with | .lf l => Lf.v l | .nd _ _ _ => .non) H
def spIsT (C : Addr) : Sp := fun vs H Q _ => ∃ (a : Addr) (t : Tr) (k : Bool), vs = [.ref a] ∧ Wo C H a t ∧ t.dep ≤ 20 ∧ t.hom k ∧ Q (.bl k) H
def spEqW (C : Addr) : Sp := fun vs H Q _ => ∃ (a b : Addr) (t t' : Tr) (k k' : Bool), vs = [.ref a, .ref b] ∧ Wo C H a t ∧ Wo C H b t' ∧ t.dep ≤ 20 ∧ t'.dep ≤ 20 ∧ t.hom k ∧ t'.hom k' ∧ Q (.bl (decide (t = t'))) H
def spStrW (C : Addr) : Sp := fun vs H Q _ => ∃ (a : Addr) (t : Tr), vs = [.ref a] ∧ Wo C H a t ∧ t.dep ≤ 12 ∧ Sm t ∧ Q (.str (txt t)) H
theorem hom_ne {k k' : Bool} : ∀ {t : Tr}, t.hom k → t.hom k' → k = k'
  | .lf (.i _), h, h' => (show k = false from h).trans (show k' = false from h').symm
  | .lf (.b _), h, h' => (show k = true from h).trans (show k' = true from h').symm
  | .nd _ y _, h, h' => hom_ne (t := y) h.1 h'.1
/-- the defs of trees, at their levels -/
structure WD (P : Program) (w : World) (K : PySem.W.Frag) (mg : Str → Option Value) (base : Heap) (C : Addr) : Prop where
  leaf : Df P w K mg base "is_leaf" 1 ["tree"] spLeaf
  isint : Df P w K mg base "is_integer" 1 ["value"] (spIsInt K)
  choice : Df P w K mg base "choice" 23 ["number", "yes", "no"] (spChoice 20)
  combined : Df P w K mg base "combined" 23 ["sign", "one", "other"] (spCombined 20)
  turned : Df P w K mg base "turned" 23 ["tree"] (spTurned 21)
  numbers : Df P w K mg base "numbers_in" 23 ["tree"] (spNumbers 21)
  reduced : Df P w K mg base "reduced" 23 ["tree", "words"] (spReduced 21)
  text : Df P w K mg base "tree_text" 23 ["tree"] (spText 21)
  truth : Df P w K mg base "is_truth_tree" 23 ["tree"] (spTruthT 21)
section
variable {P : Program} {w : World} {K : PySem.W.Frag} {mg : Str → Option Value} {base : Heap} {C : Addr}
theorem ok_wInit {f : Addr} {fd : FuncData} (F : Fun K "__init__" "Worth.__init__" sWInit f fd) (W : WCl K mg C) : FnOk P w K mg base CX0 1 f fd ["self", "tree"] (spInitW C) := by
  refine F.ok scWInit (fun vs H Q E h => ?_) (fun cdv A outer s H vs Q E hr h => ?_)
  · obtain ⟨a, dx, v, rfl, _⟩ := h
    rfl
  · obtain ⟨a, dx, v, rfl, ha, q⟩ := h
    refine ⟨_, (pss_one (ps_fld (pv 0) (pv 1) rfl)), ?_⟩
    exact ⟨_, rfl, _, rfl, a, C, dx, _, rfl, ha, W.cl, W.nt, (by show 0 < 1000; decide), q⟩
theorem ok_treeOf {f : Addr} {fd : FuncData} (F : Fun K "tree_of" "tree_of" sTreeOf f fd) (T : GloW mg) (W : WCl K mg C) (di : Df P w K mg base "is_integer" 1 ["value"] (spIsInt K)) : FnOk P w K mg base CX0 2 f fd ["value"] (spTreeOf C) := by
  refine F.ok scTreeOf (fun vs H Q E h => ?_) (fun cdv A outer s H vs Q E hr h => ?_)
  · obtain ⟨x, t, rfl, _⟩ := h
    rfl
  · obtain ⟨x, t, rfl, hg, q⟩ := h
    refine ⟨_, (pss_cons (ps_if (pt_val (pe_callB (id := "isinstance") (show CallR _ (.builtin "isinstance") (rIsi K) from call_isi) (by rfl) T.isinstance (by decide +kernel) (pa_cons (pv 0) (pa_cons (pe_glob (v := .ref C) (by rfl) W.nm rfl) pa_nil)))) (pss_one (ps_ret (pe_fld (pv 0) rfl))) pss_nil)
      (pss_cons (ps_if (PW.pt (pw_or (pt_val (pe_callB (id := "isinstance") (show CallR _ (.builtin "isinstance") (rIsi K) from call_isi) (by rfl) T.isinstance (by decide +kernel) (pa_cons (pv 0) (pa_cons (pe_bltn (v := .ty "bool") (by rfl) T.bool (by decide +kernel) rfl) pa_nil)))) (pw_or1 (pt_val (pe_df (E := E0) di hr (by rfl) (pa_cons (pv 0) pa_nil)))))) (pss_one (ps_ret (pv 0))) pss_nil)
      (pss_one ps_never))), ?_⟩
    rcases hg with ⟨a, rfl, hw⟩ | ⟨l, rfl, rfl⟩
    · have hw' := hw
      obtain ⟨dx, v, h1, h2⟩ := hw'
      refine ⟨_, rfl, _, _, _, _, _, rfl, .own C, W.ty hw, W.kw, _, rfl, ?_⟩
      exact ⟨_, rfl, a, C, dx, _, _, rfl, h1, W.cl, W.nt, rfl, q v h2⟩
    · cases l with
      | i n =>
        refine ⟨_, rfl, _, _, _, _, _, rfl, .own C, .base (.int n), W.ki, _, rfl, ?_⟩
        refine ⟨_, rfl, _, _, _, _, _, rfl, .ty "bool", .base (.int n), kit_ty (r := false) (by decide +kernel), _, rfl, ?_⟩
        exact ⟨_, rfl, _, _, _, _, rfl, .base (.int n), kit_ty (r := true) (by decide +kernel), kit_ty (r := false) (by decide +kernel), _, rfl, _, rfl, q _ (.lf (.i n))⟩
      | b n =>
        refine ⟨_, rfl, _, _, _, _, _, rfl, .own C, .base (.bl n), W.kb, _, rfl, ?_⟩
        exact ⟨_, rfl, _, _, _, _, _, rfl, .ty "bool", .base (.bl n), kit_ty (r := true) (by decide +kernel), _, rfl, _, rfl, q _ (.lf (.b n))⟩
theorem ok_wOf {f : Addr} {fd : FuncData} (F : Fun K "of" "Worth.of" sWOf f fd) (W : WMk P w K mg base C) (dt : Df P w K mg base "tree_of" 2 ["value"] (spTreeOf C)) : FnOk P w K mg base CX0 3 f fd ["value"] (spOf C) := by
  refine F.ok scWOf (fun vs H Q E h => ?_) (fun cdv A outer s H vs Q E hr h => ?_)
  · obtain ⟨x, t, rfl, _⟩ := h
    rfl
  · obtain ⟨x, t, rfl, hg, q⟩ := h
    refine ⟨_, (pss_one (ps_ret (pe_newW W hr (by rfl) (pe_df (E := E0) dt hr (by rfl) (pa_cons (pv 0) pa_nil))))), ?_⟩
    exact ⟨_, rfl, x, t, rfl, hg, fun v hv a H' s' na ⟨dx, h⟩ => q a H' s' na ⟨dx, v, h, hv.same s'⟩⟩
end
end Law
set_option Elab.async false
set_option linter.all false
set_option maxRecDepth 100000
set_option maxHeartbeats 1000000
namespace Law
open PySem PySem.Spec PyProof.Rows L2 Cor
/-- the property f of the class at C, its getter keeps sp -/
def PrW (P : Program) (w : World) (K : PySem.W.Frag) (mg : Str → Option Value) (base : Heap) (C : Addr) (f : Str) (k : Nat) (sp : Sp) : Prop := ∃ p g fd, PropOf K C f p g ∧ FnOk P w K mg base CX0 k g fd ["self"] sp ∧ Binds K fd ["self"] []
theorem pe_pr {X : Cx} {C : Addr} {f : Str} {k : Nat} {sp : Sp} {e : Expr} {ta : TE} {pos : Pos} (D : PrW X.prog X.w X.K X.mg X.base C f k sp) (c : Cls X.K C) (hr : Room (k + 1) X.A) (he : PE X e ta) (hab : attributeBase e f X.env (eval e X.env) = eval e X.env := by rfl) :
    PE X (.Attribute e f pos) (tProp C sp [] E0 ta) := by
  obtain ⟨p, g, fd, hp, F, b⟩ := D
  exact pe_prop he c hp F hr b .nil pass0 hab
section
variable {P : Program} {w : World} {K : PySem.W.Frag} {mg : Str → Option Value} {base : Heap} {C : Addr}
theorem ok_wEither {f : Addr} {fd : FuncData} (F : Fun K "either" "Worth.either" sWEither f fd) (W : WMk P w K mg base C) (D : WD P w K mg base C) (dt : Df P w K mg base "tree_of" 2 ["value"] (spTreeOf C)) : FnOk P w K mg base CX0 24 f fd ["number", "yes", "no"] (spEither C) := by
  refine F.ok scWEither (fun vs H Q E h => ?_) (fun cdv A outer s H vs Q E hr h => ?_)
  · obtain ⟨n, x, y, tx, ty, k, B, S, rfl, _⟩ := h
    rfl
  · obtain ⟨n, x, y, tx, ty, k, B, S, rfl, hn, hx, hy, hS, h20, nS, cx, cy, q⟩ := h
    refine ⟨_, (pss_cons (ps_if (PW.pt (pw_or (pt_not (pt_val (pe_df (E := E0) D.isint (hr.mono (by omega)) (by rfl) (pa_cons (pv 0) pa_nil)))) (pw_or1 (pt_cmpR op_lt (pv 0) pe_int (nomark _))))) (pss_one ps_never) pss_nil)
      (pss_cons (ps_par (i := 3) (j := 4) (by rfl) scWEither.nd rfl rfl (by decide) rfl rfl (pa_cons (pe_df (E := E0) dt (hr.mono (by omega)) (by rfl) (pa_cons (pv 1) pa_nil)) (pa_cons (pe_df (E := E0) dt (hr.mono (by omega)) (by rfl) (pa_cons (pv 2) pa_nil)) pa_nil)) (by rfl))
      (pss_cons (ps_if (pt_cmpR op_ne (pe_df (E := E0) D.truth hr (by rfl) (pa_cons (pv 3) pa_nil)) (pe_df (E := E0) D.truth hr (by rfl) (pa_cons (pv 4) pa_nil)) (nomark _)) (pss_one ps_never) pss_nil)
      (pss_one (ps_ret (pe_newW W (hr.mono (by omega)) (by rfl) (pe_df (E := E0) D.choice hr (by rfl) (pa_cons (pv 0) (pa_cons (pv 3) (pa_cons (pv 4) pa_nil)))))))))), ?_⟩
    have dx := cx.dep_le
    have dy := cy.dep_le
    refine ⟨_, rfl, _, _, true, false, rfl, .base (.int n), kit_ty (by decide +kernel), kit_ty (by decide +kernel), _, rfl, ?_⟩
    refine ⟨_, rfl, _, _, rfl, rfl, _, rfl, ?_⟩
    refine ite2 (fun hb => absurd (of_decide_eq_true hb) (by omega)) (fun hb => ?_)
    refine ⟨_, rfl, x, tx, rfl, hx, fun v1 h1 => ?_⟩
    refine ⟨_, rfl, y, ty, rfl, hy, fun v2 h2 => ?_⟩
    refine ⟨_, _, rfl, ?_⟩
    refine ⟨_, rfl, v1, tx, k, rfl, h1, by omega, cx.hom Lg.k, ?_⟩
    refine ⟨_, rfl, v2, ty, k, rfl, h2, by omega, cy.hom Lg.k, rfl, _, rfl, ?_⟩
    refine ite2 (fun hb => absurd hb (by simp)) (fun hb => ?_)
    refine ⟨_, rfl, _, rfl, _, rfl, n, v1, v2, tx, ty, k, B, S, rfl, h1, h2, hS, h20, nS, cx, cy, fun v3 H3 t3 s3 h3 c3 e3 => ?_⟩
    exact fun a H' s' na ⟨dx, h⟩ => q t3 c3 e3 a H' (fun b o z => s' b o (s3 b o z)) (by
      cases hz : H a with
      | none => rfl
      | some o => rw [s3 _ _ hz] at na; cases na) ⟨dx, v3, h, h3.same s'⟩
theorem ok_wWords {f : Addr} {fd : FuncData} (F : Fun K "words" "Worth.words" sWWords f fd) (T : GloW mg) (W : WMk P w K mg base C) (D : WD P w K mg base C) : FnOk P w K mg base CX0 24 f fd ["self"] (spWords C) := by
  refine F.ok scWWords (fun vs H Q E h => ?_) (fun cdv A outer s H vs Q E hr h => ?_)
  · obtain ⟨a, t, k, B, S, rfl, _⟩ := h
    rfl
  · obtain ⟨a, t, k, B, S, rfl, ⟨dx, v1, h1, hv1⟩, hS, h20, c1, q⟩ := h
    refine ⟨_, (pss_one (ps_ret (pe_callTy call_tuple_of (by rfl) T.tuple (by decide +kernel) (pa_cons (pe_df (E := E0) D.numbers hr (by rfl) (pa_cons (pe_fld (pv 0) rfl) pa_nil)) pa_nil)))), ?_⟩
    have d1 := c1.dep_le
    refine ⟨_, rfl, a, C, dx, _, _, rfl, h1, W.cl, W.nt, rfl, v1, t, k, B, S, rfl, hv1, by omega, hS, by omega, c1, fun p H3 ns s3 h3 an mn _ => ?_⟩
    refine ⟨p, _, rfl, .inl ⟨SqL.of h3, fun p2 n2 => ?_⟩⟩
    have s4 := same_upd (o := .tup (ns.map V.int)) n2
    exact q p2 _ ns (fun b o z => s4 b o (s3 b o z)) upd_same an mn
theorem ok_wPlain {f : Addr} {fd : FuncData} (F : Fun K "plain" "Worth.plain" sWPlain f fd) (W : WMk P w K mg base C) (D : WD P w K mg base C) : FnOk P w K mg base CX0 24 f fd ["self"] (spPlain C) := by
  refine F.ok scWPlain (fun vs H Q E h => ?_) (fun cdv A outer s H vs Q E hr h => ?_)
  · obtain ⟨a, t, rfl, _⟩ := h
    rfl
  · obtain ⟨a, t, rfl, ⟨dx, v1, h1, hv1⟩, q⟩ := h
    refine ⟨_, (pss_one (ps_ret (pe_ifExp (pt_val (pe_df (E := E0) D.leaf (hr.mono (by omega)) (by rfl) (pa_cons (pe_fld (pv 0) rfl) pa_nil))) (pe_fld (pv 0) rfl) pe_non))), ?_⟩
    refine ⟨_, rfl, a, C, dx, _, _, rfl, h1, W.cl, W.nt, rfl, v1, t, rfl, hv1, _, rfl, ?_⟩
    cases t with
    | lf l =>
      obtain rfl := hv1.lf_of
      exact ⟨_, rfl, a, C, dx, _, _, rfl, h1, W.cl, W.nt, rfl, q⟩
    | nd n y o => exact q
theorem ok_wIsT {f : Addr} {fd : FuncData} (F : Fun K "is_truth" "Worth.is_truth" sWIsT f fd) (W : WMk P w K mg base C) (D : WD P w K mg base C) : FnOk P w K mg base CX0 24 f fd ["self"] (spIsT C) := by
  refine F.ok scWIsT (fun vs H Q E h => ?_) (fun cdv A outer s H vs Q E hr h => ?_)
  · obtain ⟨a, t, k, rfl, _⟩ := h
    rfl
  · obtain ⟨a, t, k, rfl, ⟨dx, v1, h1, hv1⟩, d20, hk, q⟩ := h
    refine ⟨_, (pss_one (ps_ret (pe_df (E := E0) D.truth hr (by rfl) (pa_cons (pe_fld (pv 0) rfl) pa_nil)))), ?_⟩
    exact ⟨_, rfl, a, C, dx, _, _, rfl, h1, W.cl, W.nt, rfl, v1, t, k, rfl, hv1, by omega, hk, q⟩
theorem ok_wStr {f : Addr} {fd : FuncData} (F : Fun K "__str__" "Worth.__str__" sWStr f fd) (W : WMk P w K mg base C) (D : WD P w K mg base C) : FnOk P w K mg base CX0 24 f fd ["self"] (spStrW C) := by
  refine F.ok scWStr (fun vs H Q E h => ?_) (fun cdv A outer s H vs Q E hr h => ?_)
  · obtain ⟨a, t, rfl, _⟩ := h
    rfl
  · obtain ⟨a, t, rfl, ⟨dx, v1, h1, hv1⟩, d12, sm, q⟩ := h
    refine ⟨_, (pss_one (ps_ret (pe_joined1 (pe_fmt (pe_df (E := E0) D.text hr (by rfl) (pa_cons (pe_fld (pv 0) rfl) pa_nil)))))), ?_⟩
    exact ⟨_, rfl, a, C, dx, _, _, rfl, h1, W.cl, W.nt, rfl, v1, t, rfl, hv1, by omega, d12, sm, .inl ⟨_, rfl, txt_fits sm d12, q⟩⟩
theorem ok_wEq {f : Addr} {fd : FuncData} (F : Fun K "__eq__" "Worth.__eq__" sWEq f fd) (T : GloW mg) (W : WMk P w K mg base C) (di : PrW P w K mg base C "is_truth" 24 (spIsT C)) : FnOk P w K mg base CX0 26 f fd ["self", "other"] (spEqW C) := by
  refine F.ok scWEq (fun vs H Q E h => ?_) (fun cdv A outer s H vs Q E hr h => ?_)
  · obtain ⟨a, b, t, t', k, k', rfl, _⟩ := h
    rfl
  · obtain ⟨a, b, t, t', k, k', rfl, ha, hb, da, db, ka, kb, q⟩ := h
    refine ⟨_, (pss_cons (ps_if (pt_not (pt_val (pe_callB (id := "isinstance") (show CallR _ (.builtin "isinstance") (rIsi K) from call_isi) (by rfl) T.isinstance (by decide +kernel) (pa_cons (pv 1) (pa_cons (pe_glob (v := .ref C) (by rfl) W.nm rfl) pa_nil))))) (pss_one (ps_ret pe_bl)) pss_nil)
      (pss_one (ps_ret (pe_and (pe_cmpR op_eq (pe_pr di W.cl hr (pv 0)) (pe_pr di W.cl hr (pv 1)) (nomark _)) (pe_one (pe_cmpR (op_eqD hr.units) (pe_fld (pv 0) rfl) (pe_fld (pv 1) rfl) (nomark _))))))), ?_⟩
    have ha' := ha
    have hb' := hb
    obtain ⟨dx, v1, h1, hv1⟩ := ha'
    obtain ⟨dy, v2, h2, hv2⟩ := hb'
    refine ⟨_, rfl, _, _, _, _, _, rfl, .own C, W.ty hb, W.kw, _, rfl, ?_⟩
    refine ⟨_, rfl, a, dx, _, rfl, h1, a, t, k, rfl, ha, da, ka, _, rfl, b, dy, _, rfl, h2, b, t', k', rfl, hb, db, kb, rfl, _, rfl, ?_⟩
    refine ite2 (fun hk => ?_) (fun hk => ?_)
    · have e : k = k' := V.bl.inj (of_decide_eq_true hk)
      subst e
      refine ⟨_, rfl, a, C, dx, _, _, rfl, h1, W.cl, W.nt, rfl, _, rfl, b, C, dy, _, _, rfl, h2, W.cl, W.nt, rfl, _, _, hv1.dp, hv2.dp, Tr.shaped (by omega), Tr.shaped (by omega), ?_⟩
      rw [eqv_tr ka kb]
      exact q
    · have e : t ≠ t' := fun z => hk (decide_eq_true (by rw [z] at ka; rw [hom_ne ka kb]))
      rw [decide_eq_false e] at q
      exact q
end
end Law
set_option Elab.async false
set_option linter.all false
set_option maxRecDepth 100000
set_option maxHeartbeats 1000000
namespace Law
open PySem PySem.Spec PyProof.Rows L2 Cor
abbrev sLeafOf : Stmt := topS 26
theorem scLeafOf : FnScope ["word"] ["word"] (defScope sLeafOf) := ⟨rfl, rfl, rfl, by decide +kernel, rfl, by decide +kernel, by decide +kernel⟩
abbrev sParsed : Stmt := topS 27
theorem scParsed : FnScope ["words", "at", "deep", "leaf", "number", "held", "failed"] ["words", "at", "deep"] (defScope sParsed) := ⟨rfl, rfl, rfl, by decide +kernel, rfl, by decide +kernel, by decide +kernel⟩
def spLeafOf : Sp := fun vs H Q _ => ∃ x : Str, vs = [.str x] ∧ x.length ≤ 14000000 ∧ ∀ H', Same H H' → Q (leafV x) H'
def spParsed (f : Nat) : Sp := fun vs H Q _ => ∃ (l : Addr) (ws : List Str) (i : Nat), vs = [.ref l, .int i, .int ((13 : Int) - f)] ∧ f ≤ 13 ∧ H l = some (.lst (ws.map V.str)) ∧ (∀ w ∈ ws, w.length ≤ 14000000 ∧ PyData.canLay0 (.str w) = true) ∧ ws.length ≤ 10000000 ∧
  ∀ H', Same H H' → (prs ws f i = none → Q .non H') ∧ ∀ t j p v, prs ws f i = some (t, j) → H' p = some (.tup [v, .int j]) → Tv H' v t → Q (.ref p) H'
section
variable {P : Program} {w : World} {K : PySem.W.Frag} {mg : Str → Option Value} {base : Heap}
theorem ok_leafOf {f : Addr} {fd : FuncData} (F : Fun K "leaf_of" "leaf_of" sLeafOf f fd) (T : GloP K mg) (dn : Df P w K mg base "number_of" 3 ["text"] spNumOf) : FnOk P w K mg base CX0 4 f fd ["word"] spLeafOf := by
  refine F.ok scLeafOf (fun vs H Q E h => ?_) (fun cdv A outer s H vs Q E hr h => ?_)
  · obtain ⟨x, rfl, _⟩ := h
    rfl
  · obtain ⟨x, rfl, hl, q⟩ := h
    refine ⟨_, (pss_cons (ps_if (pt_cmpR op_in_seq (pv 0) (pe_tup (pa_cons pe_str (pa_cons pe_str pa_nil))) (by rfl)) (pss_one (ps_ret (pe_cmpR op_eq (pv 0) pe_str (nomark _)))) pss_nil)
      (pss_one (ps_ret (pe_df (E := E0) dn hr (by rfl) (pa_cons (pv 0) pa_nil))))), ?_⟩
    refine ⟨_, rfl, (by show 2 ≤ sizeLine; decide), fun p np => ?_⟩
    have s1 := same_upd (o := .tup [V.str "yes", V.str "no"]) np
    refine ⟨p, _, rfl, .inr (SqT.of upd_same), rfl, rfl, _, rfl, ?_⟩
    have ei : inV (.str x) [V.str "yes", V.str "no"] = (decide (x = "yes") || decide (x = "no")) := by
      have k : ∀ y : Str, eqV (V.str y) (V.str x) = decide (x = y) := fun y => by
        show (y == x) = _
        rw [Bool.eq_iff_iff, decide_eq_true_eq, beq_iff_eq]
        exact ⟨Eq.symm, Eq.symm⟩
      show (eqV (V.str "yes") (V.str x) || (eqV (V.str "no") (V.str x) || false)) = _
      rw [k, k, Bool.or_false]
    refine ite2 (fun hb => ?_) (fun hb => ?_)
    · have hb : inV (.str x) [V.str "yes", V.str "no"] = true := hb
      rw [ei, Bool.or_eq_true] at hb
      refine ⟨_, rfl, rfl, ?_⟩
      have q := q _ s1
      unfold leafV leafT at q
      rcases hb with hb | hb
      · obtain rfl := of_decide_eq_true hb
        rw [if_pos rfl] at q
        exact q
      · obtain rfl := of_decide_eq_true hb
        exact q
    · have hb : ¬ inV (.str x) [V.str "yes", V.str "no"] = true := hb
      rw [ei, Bool.or_eq_true, not_or] at hb
      have h1 : ¬ x = "yes" := fun z => hb.1 (decide_eq_true z)
      have h2 : ¬ x = "no" := fun z => hb.2 (decide_eq_true z)
      refine ⟨_, rfl, x, rfl, hl, fun H' s' => ?_⟩
      have q := q H' (fun b o z => s' b o (s1 b o z))
      unfold leafV leafT at q
      rw [if_neg h1, if_neg h2] at q
      cases e : numT x with
      | none => rw [e] at q; exact q
      | some n => rw [e] at q; exact q
theorem ok_parsed {f : Addr} {fd : FuncData} (F : Fun K "parsed" "parsed" sParsed f fd) (T : GloP K mg) (hD : ∃ u, mg "DEEPEST" = some u ∧ RelV (.int 12) u) (dl : Df P w K mg base "leaf_of" 4 ["word"] spLeafOf) (df : Df P w K mg base "figure_of" 2 ["text"] spFigOf) (hm : mg "parsed" = some (.ref f)) :
    ∀ m, FnOk P w K mg base CX0 (5 + m) f fd ["words", "at", "deep"] (spParsed m) := by
  intro m
  induction m with
  | zero =>
    refine F.ok scParsed (k := 4) (fun vs H Q E h => ?_) (fun cdv A outer s H vs Q E hr h => ?_)
    · obtain ⟨l, ws, i, rfl, _⟩ := h
      rfl
    · obtain ⟨l, ws, i, rfl, hf, el, hw, hl, q⟩ := h
      obtain ⟨uD, mD, rD⟩ := hD
      refine ⟨_, (pss_cons (ps_if (PW.pt (pw_or (pt_cmpR op_ge (pv 1) (pe_callB call_len (by rfl) T.len PySem.boot_len (pa_cons (pv 0) pa_nil)) (nomark _)) (pw_or1 (pt_cmpR op_gt (pv 2) (pe_glob (by rfl) mD rD) (nomark _))))) (pss_one (ps_ret pe_non)) pss_nil)
      (pss_cons ps_never
      (pss_cons ps_never
      (pss_cons ps_never
      (pss_cons ps_never
      (pss_cons ps_never
      (pss_cons ps_never
      (pss_one ps_never)))))))), ?_⟩
      have q0 := (q H fun _ _ z => z).1 rfl
      refine ⟨_, rfl, _, rfl, .ref l, ws.length, rfl, .inl ⟨_, SqL.of el, (List.length_map _).symm⟩, _, _, rfl, rfl, _, rfl, ?_⟩
      refine ite2 (fun _ => iteT q0) (fun _ => ?_)
      refine ⟨_, rfl, _, _, rfl, rfl, _, rfl, iteT q0⟩
  | succ m IH =>
    have ih : Df P w K mg base "parsed" (5 + m) ["words", "at", "deep"] (spParsed m) := ⟨f, fd, IH, hm, F.kp, F.binds fun _ _ _ _ _ _ us hl => match us, hl with | [_, _, _], _ => rfl⟩
    refine F.ok scParsed (k := 5 + m) (fun vs H Q E h => ?_) (fun cdv A outer s H vs Q E hr h => ?_)
    · obtain ⟨l, ws, i, rfl, _⟩ := h
      rfl
    · obtain ⟨l, ws, i, rfl, hf, el, hw, hl, q⟩ := h
      obtain ⟨uD, mD, rD⟩ := hD
      refine ⟨_, (pss_cons (ps_if (PW.pt (pw_or (pt_cmpR op_ge (pv 1) (pe_callB call_len (by rfl) T.len PySem.boot_len (pa_cons (pv 0) pa_nil)) (nomark _)) (pw_or1 (pt_cmpR op_gt (pv 2) (pe_glob (by rfl) mD rD) (nomark _))))) (pss_one (ps_ret pe_non)) pss_nil)
      (pss_cons (ps_if (pt_cmpR op_ne (pe_slice sl_str (pe_ix ix_list (pv 0) (pv 1) (fun _ _ => rfl)) po_none (po_some pe_int)) pe_str (nomark _)) (pss_cons (ps_set (i := 3) scParsed.nd rfl (Or.inl rfl) (pe_df (E := E0) dl (hr.mono (by omega)) (by rfl) (pa_cons (pe_ix ix_list (pv 0) (pv 1) (fun _ _ => rfl)) pa_nil)))
      (pss_one (ps_ret (pe_ifExp (pt_cmp (pc_isN (pv 3)) rfl) pe_non (pe_tup (pa_cons (pv 3) (pa_cons (pe_op op_add (pv 1) pe_int) pa_nil))))))) pss_nil)
      (pss_cons (ps_set (i := 4) scParsed.nd rfl (Or.inl rfl) (pe_df (E := E0) df (hr.mono (by omega)) (by rfl) (pa_cons (pe_slice sl_str (pe_ix ix_list (pv 0) (pv 1) (fun _ _ => rfl)) (po_some pe_int) po_none) pa_nil)))
      (pss_cons (ps_set (i := 5) scParsed.nd rfl (Or.inl rfl) (pe_ifExp (PW.pt (pw_and (pt_truth (pv 4) (by intro _; rfl)) (pw_and1 (pt_cmpR (op_eqD hr.units) (pe_slice sl_list (pv 0) (po_some (pe_op op_add (pv 1) pe_int)) (po_some (pe_op op_add (pv 1) pe_int))) (pe_lst (pa_cons pe_str pa_nil)) (nomark _))))) (pe_df (E := E0) ih hr (by rfl) (pa_cons (pv 0) (pa_cons (pe_op op_add (pv 1) pe_int) (pa_cons (pe_op op_add (pv 2) pe_int) pa_nil)))) pe_non))
      (pss_cons (ps_if (PW.pt (pw_or (pt_cmp (pc_isN (pv 5)) rfl) (pw_or1 (pt_cmpR (op_neD hr.units) (pe_slice sl_list (pv 0) (po_some (pe_ix ix_tup (pv 5) pe_int (fun _ _ => rfl))) (po_some (pe_op op_add (pe_ix ix_tup (pv 5) pe_int (fun _ _ => rfl)) pe_int))) (pe_lst (pa_cons pe_str pa_nil)) (nomark _))))) (pss_one (ps_ret pe_non)) pss_nil)
      (pss_cons (ps_set (i := 6) scParsed.nd rfl (Or.inl rfl) (pe_df (E := E0) ih hr (by rfl) (pa_cons (pv 0) (pa_cons (pe_op op_add (pe_ix ix_tup (pv 5) pe_int (fun _ _ => rfl)) pe_int) (pa_cons (pe_op op_add (pv 2) pe_int) pa_nil)))))
      (pss_cons (ps_if (PW.pt (pw_or (pt_cmp (pc_isN (pv 6)) rfl) (pw_or1 (pt_cmpR (op_neD hr.units) (pe_slice sl_list (pv 0) (po_some (pe_ix ix_tup (pv 6) pe_int (fun _ _ => rfl))) (po_some (pe_op op_add (pe_ix ix_tup (pv 6) pe_int (fun _ _ => rfl)) pe_int))) (pe_lst (pa_cons pe_str pa_nil)) (nomark _))))) (pss_one (ps_ret pe_non)) pss_nil)
      (pss_one (ps_ret (pe_tup (pa_cons (pe_tup (pa_cons (pv 4) (pa_cons (pe_ix ix_tup (pv 5) pe_int (fun _ _ => rfl)) (pa_cons (pe_ix ix_tup (pv 6) pe_int (fun _ _ => rfl)) pa_nil)))) (pa_cons (pe_op op_add (pe_ix ix_tup (pv 6) pe_int (fun _ _ => rfl)) pe_int) pa_nil)))))))))))), ?_⟩
      have lw : (ws.map V.str).length = ws.length := List.length_map _
      refine ⟨_, rfl, _, rfl, .ref l, ws.length, rfl, .inl ⟨_, SqL.of el, lw.symm⟩, _, _, rfl, rfl, _, rfl, ?_⟩
      by_cases hi : ws.length ≤ i
      · refine ite2 (fun _ => iteT ((q H fun _ _ z => z).1 ?_)) (fun hb => absurd (decide_eq_true (by omega)) hb)
        unfold prs
        rw [List.getElem?_eq_none hi]
      refine ite2 (fun hb => absurd (of_decide_eq_true hb) (by omega)) (fun _ => ?_)
      refine ⟨_, rfl, _, _, rfl, rfl, _, rfl, ite2 (fun hb => absurd (of_decide_eq_true hb) (by push_cast; omega)) (fun _ => ?_)⟩
      have hi' : i < ws.length := by omega
      obtain ⟨wi, ei⟩ : ∃ wi, ws[i]? = some wi := ⟨_, List.getElem?_eq_getElem hi'⟩
      have at_i : atI (ws.map V.str) (i : Int) = some (.str wi) := by
        refine atI_nat ?_
        rw [List.getElem?_map, ei]
        rfl
      have hwi := hw wi (List.mem_of_getElem? ei)
      have hz : wi.length ≤ sizeLine := by rw [sizeLine_eq]; omega
      refine ⟨_, rfl, _, rfl, l, _, _, _, rfl, rfl, SqL.of el, at_i, _, rfl, _, rfl, hz, rfl, _, rfl, ?_⟩
      have fo := first_open wi
      have els : ∀ {H' : Hp}, Same H H' → H' l = some (.lst (ws.map V.str)) := fun z => z _ _ el
      have cut2 : ∀ {H' : Hp} {p : Addr} {o : Option Str}, H' p = some (.lst (o.toList.map V.str)) → (∀ x ∈ o, PyData.canLay0 (.str x) = true) → Dp K H' (.ref p) (.list (o.toList.map PyData.str)) ∧ SeqAt.shaped (.list (o.toList.map PyData.str)) = true := fun {H' p o} e h =>
        ⟨.lst (SqL.of e) (dpAll_ws _), shaped_ws _ fun x hx => h x (by cases o with | none => cases hx | some y => rw [List.mem_singleton.mp (show x ∈ [y] from hx)]; rfl)⟩
      have okw : ∀ j, ∀ x ∈ ws[j]?, PyData.canLay0 (.str x) = true := fun j x hx => (hw x (List.mem_of_getElem? hx)).2
      by_cases ho : isOpen wi = true
      · refine ite2 (fun hb => ?_) (fun _ => ?_)
        · have hb : (!decide (V.str (cutS wi none (some 1)) = V.str "(")) = true := hb
          rw [fo, ho] at hb
          cases hb
        have et : cutS wi (some 1) none = tailS wi := cut_from wi 1
        have lt : (tailS wi).length ≤ wi.length := by rw [← et]; exact cutS_length wi _ _
        refine ⟨_, rfl, _, rfl, l, _, _, _, rfl, rfl, SqL.of el, at_i, _, rfl, wi, rfl, hz, tailS wi, by rw [et]; rfl, by omega, fun H1 s1 => ?_⟩
        have vq : ∀ a : Nat, [V.ref l, V.int (a : Int), V.int (13 - ((m + 1 : Nat) : Int) + 1)] = [V.ref l, V.int (a : Int), V.int (13 - (m : Int))] := fun a => by
          rw [show ((13 : Int) - ((m + 1 : Nat) : Int) + 1) = 13 - (m : Int) from by omega]
        have cutEq : cutV (ws.map V.str) (some ((i : Int) + 1)) (some ((i : Int) + 2)) = ws[i + 1]?.toList.map V.str := cutV_ws ws (i + 1)
        cases ef : figT (tailS wi) with
        | none =>
          have ep : prs ws (m + 1) i = none := by
            unfold prs
            rw [ei]
            simp only [if_pos ho, ef]
          exact ⟨_, rfl, false, rfl, iteF (iteF ⟨_, rfl, _, rfl, iteT (iteT ((q H1 s1).1 ep))⟩)⟩
        | some n =>
          by_cases hn : n = 0
          · subst hn
            have ep : prs ws (m + 1) i = none := by
              unfold prs
              rw [ei]
              simp only [if_pos ho, ef, if_true]
            exact ⟨_, rfl, false, rfl, iteF (iteF ⟨_, rfl, _, rfl, iteT (iteT ((q H1 s1).1 ep))⟩)⟩
          refine ⟨_, rfl, true, (by show true = (n != 0); simp [hn]), iteT ?_⟩
          refine ⟨_, rfl, _, rfl, _, _, rfl, rfl, _, rfl, _, rfl, _, _, rfl, rfl, _, rfl, l, _, rfl, SqL.of (els s1), fun p np => ?_⟩
          have s2 := same_upd (o := .lst (cutV (ws.map V.str) (some ((i : Int) + 1)) (some ((i : Int) + 2)))) np
          refine ⟨(by show 1 ≤ sizeLine; decide), fun p2 np2 => ?_⟩
          have s3 := same_upd (o := .lst [V.str "?"]) np2
          have e1 : (upd (upd H1 p (.lst (cutV (ws.map V.str) (some ((i : Int) + 1)) (some ((i : Int) + 2))))) p2 (.lst [V.str "?"])) p = some (.lst (ws[i + 1]?.toList.map V.str)) := by
            rw [← cutEq]
            exact s3 _ _ upd_same
          have sH3 : Same H (upd (upd H1 p (.lst (cutV (ws.map V.str) (some ((i : Int) + 1)) (some ((i : Int) + 2))))) p2 (.lst [V.str "?"])) := fun b o z => s3 b o (s2 b o (s1 b o z))
          obtain ⟨d1, sh1⟩ := cut2 e1 (okw (i + 1))
          refine ⟨_, .list [.str "?"], d1, .lst (SqL.of upd_same) (.cons (.str "?") .nil), sh1, by decide +kernel, _, rfl, ?_⟩
          rw [eqv_one]
          generalize (upd (upd H1 p (.lst (cutV (ws.map V.str) (some ((i : Int) + 1)) (some ((i : Int) + 2))))) p2 (.lst [V.str "?"])) = H3 at sH3 ⊢
          by_cases hq : ws[i + 1]? = some ("?" : Str)
          · refine ite2 (fun _ => ?_) (fun hb => absurd (decide_eq_true hq) hb)
            refine ⟨_, rfl, _, rfl, _, _, rfl, rfl, _, rfl, _, _, rfl, rfl, l, ws, i + 2, vq (i + 2), by omega, els sH3, hw, hl, fun H4 s4 => ⟨fun en => ?_, fun th j1 p3 v1 e3 et3 hv3 => ?_⟩⟩
            · have ep : prs ws (m + 1) i = none := by
                unfold prs
                rw [ei]
                simp only [if_pos ho, ef, if_neg hn, if_pos hq, en]
              exact ⟨_, rfl, _, rfl, iteT (iteT ((q H4 fun b o z => s4 b o (sH3 b o z)).1 ep))⟩
            have sH4 : Same H H4 := fun b o z => s4 b o (sH3 b o z)
            refine ⟨_, rfl, _, rfl, iteF ?_⟩
            refine ⟨_, rfl, _, rfl, p3, _, _, _, rfl, rfl, SqT.of et3, rfl, _, rfl, _, rfl, p3, _, _, _, rfl, rfl, SqT.of et3, rfl, _, _, rfl, rfl, _, rfl, l, _, rfl, SqL.of (els sH4), fun p4 np4 => ?_⟩
            refine ⟨(by show 1 ≤ sizeLine; decide), fun p5 np5 => ?_⟩
            have s6 : Same H4 (upd (upd H4 p4 (.lst (cutV (ws.map V.str) (some (j1 : Int)) (some ((j1 : Int) + 1))))) p5 (.lst [V.str ":"])) := fun b o z => same_upd np5 b o (same_upd np4 b o z)
            have e4 : (upd (upd H4 p4 (.lst (cutV (ws.map V.str) (some (j1 : Int)) (some ((j1 : Int) + 1))))) p5 (.lst [V.str ":"])) p4 = some (.lst (ws[j1]?.toList.map V.str)) := by
              rw [← cutV_ws]
              exact same_upd np5 _ _ upd_same
            obtain ⟨d2, sh2⟩ := cut2 e4 (okw j1)
            refine ⟨_, .list [.str ":"], d2, .lst (SqL.of upd_same) (.cons (.str ":") .nil), sh2, by decide +kernel, _, rfl, ?_⟩
            rw [eqv_one]
            generalize (upd (upd H4 p4 (.lst (cutV (ws.map V.str) (some (j1 : Int)) (some ((j1 : Int) + 1))))) p5 (.lst [V.str ":"])) = H6 at s6 ⊢
            have sH6 : Same H H6 := fun b o z => s6 b o (sH4 b o z)
            have et6 := s6 _ _ et3
            by_cases hc : ws[j1]? = some (":" : Str)
            · refine ite2 (fun hb => ?_) (fun _ => ?_)
              · rw [decide_eq_true hc] at hb
                cases hb
              refine ⟨_, rfl, _, rfl, p3, _, _, _, rfl, rfl, SqT.of et6, rfl, _, _, rfl, rfl, _, rfl, _, _, rfl, rfl, l, ws, j1 + 1, vq (j1 + 1), by omega, els sH6, hw, hl, fun H7 s7 => ⟨fun en => ?_, fun to j2 p7 v2 e7 et7 hv7 => ?_⟩⟩
              · have ep : prs ws (m + 1) i = none := by
                  unfold prs
                  rw [ei]
                  simp only [if_pos ho, ef, if_neg hn, if_pos hq, e3, if_pos hc, en]
                exact ⟨_, rfl, _, rfl, iteT (iteT ((q H7 fun b o z => s7 b o (sH6 b o z)).1 ep))⟩
              have sH7 : Same H H7 := fun b o z => s7 b o (sH6 b o z)
              have et8 := s7 _ _ et6
              refine ⟨_, rfl, _, rfl, iteF ?_⟩
              refine ⟨_, rfl, _, rfl, p7, _, _, _, rfl, rfl, SqT.of et7, rfl, _, rfl, _, rfl, p7, _, _, _, rfl, rfl, SqT.of et7, rfl, _, _, rfl, rfl, _, rfl, l, _, rfl, SqL.of (els sH7), fun p8 np8 => ?_⟩
              refine ⟨(by show 1 ≤ sizeLine; decide), fun p9 np9 => ?_⟩
              have s9 : Same H7 (upd (upd H7 p8 (.lst (cutV (ws.map V.str) (some (j2 : Int)) (some ((j2 : Int) + 1))))) p9 (.lst [V.str ")"])) := fun b o z => same_upd np9 b o (same_upd np8 b o z)
              have e9 : (upd (upd H7 p8 (.lst (cutV (ws.map V.str) (some (j2 : Int)) (some ((j2 : Int) + 1))))) p9 (.lst [V.str ")"])) p8 = some (.lst (ws[j2]?.toList.map V.str)) := by
                rw [← cutV_ws]
                exact same_upd np9 _ _ upd_same
              obtain ⟨d3, sh3⟩ := cut2 e9 (okw j2)
              refine ⟨_, .list [.str ")"], d3, .lst (SqL.of upd_same) (.cons (.str ")") .nil), sh3, by decide +kernel, _, rfl, ?_⟩
              rw [eqv_one]
              generalize (upd (upd H7 p8 (.lst (cutV (ws.map V.str) (some (j2 : Int)) (some ((j2 : Int) + 1))))) p9 (.lst [V.str ")"])) = H9 at s9 ⊢
              have sH9 : Same H H9 := fun b o z => s9 b o (sH7 b o z)
              have et9 := s9 _ _ et7
              have et10 := s9 _ _ et8
              by_cases hd : ws[j2]? = some (")" : Str)
              · refine ite2 (fun hb => ?_) (fun _ => ?_)
                · rw [decide_eq_true hd] at hb
                  cases hb
                have ep : prs ws (m + 1) i = some (.nd n th to, j2 + 1) := by
                  unfold prs
                  rw [ei]
                  simp only [if_pos ho, ef, if_neg hn, if_pos hq, e3, if_pos hc, e7, if_pos hd]
                refine ⟨_, rfl, _, rfl, p3, _, _, _, rfl, rfl, SqT.of et10, rfl, _, rfl, p7, _, _, _, rfl, rfl, SqT.of et9, rfl, (by show 3 ≤ sizeLine; decide), fun pa npa => ?_⟩
                have sa := same_upd (o := .tup [.int n, v1, v2]) npa
                refine ⟨_, rfl, p7, _, _, _, rfl, rfl, SqT.of (sa _ _ et9), rfl, _, _, rfl, rfl, (by show 2 ≤ sizeLine; decide), fun pb npb => ?_⟩
                have sb := same_upd (o := .tup [.ref pa, .int ((j2 : Int) + 1)]) npb
                have s49 : Same H4 H9 := fun b o z => s9 b o (s7 b o (s6 b o z))
                exact (q _ (fun b o z => sb b o (sa b o (sH9 b o z)))).2 _ _ pb _ ep upd_same (.nd (sb _ _ upd_same) (hv3.same fun b o z => sb b o (sa b o (s49 b o z))) (hv7.same fun b o z => sb b o (sa b o (s9 b o z))))
              · have ep : prs ws (m + 1) i = none := by
                  unfold prs
                  rw [ei]
                  simp only [if_pos ho, ef, if_neg hn, if_pos hq, e3, if_pos hc, e7, if_neg hd]
                refine ite2 (fun _ => (q H9 sH9).1 ep) (fun hb => ?_)
                rw [decide_eq_false hd] at hb
                exact absurd rfl hb
            · have ep : prs ws (m + 1) i = none := by
                unfold prs
                rw [ei]
                simp only [if_pos ho, ef, if_neg hn, if_pos hq, e3, if_neg hc]
              refine ite2 (fun _ => (q H6 sH6).1 ep) (fun hb => ?_)
              rw [decide_eq_false hc] at hb
              exact absurd rfl hb
          · have ep : prs ws (m + 1) i = none := by
              unfold prs
              rw [ei]
              simp only [if_pos ho, ef, if_neg hn, if_neg hq]
            exact ite2 (fun hb => absurd (of_decide_eq_true hb) hq) (fun _ => ⟨_, rfl, _, rfl, iteT (iteT ((q H3 sH3).1 ep))⟩)
      · refine ite2 (fun _ => ?_) (fun hb => ?_)
        · refine ⟨_, rfl, _, rfl, l, _, _, _, rfl, rfl, SqL.of el, at_i, wi, rfl, by omega, fun H1 s1 => ?_⟩
          have ep : prs ws (m + 1) i = (leafT wi).map fun l => (.lf l, i + 1) := by
            unfold prs
            rw [ei]
            simp only [if_neg ho]
          unfold leafV
          cases e : leafT wi with
          | none =>
            rw [e] at ep
            exact ⟨_, rfl, _, rfl, iteT ((q H1 s1).1 ep)⟩
          | some lf =>
            rw [e] at ep
            refine ⟨_, rfl, _, rfl, ?_⟩
            have fin : ∀ p : Addr, H1 p = none → Q (.ref p) (upd H1 p (.tup [lf.v, .int ((i : Int) + 1)])) := fun p np =>
              (q _ (fun b o z => same_upd np b o (s1 b o z))).2 _ _ p _ ep upd_same (.lf lf)
            cases lf with
            | i n => exact iteF ⟨_, rfl, _, rfl, _, _, rfl, rfl, (by show 2 ≤ sizeLine; decide), fin⟩
            | b n => exact iteF ⟨_, rfl, _, rfl, _, _, rfl, rfl, (by show 2 ≤ sizeLine; decide), fin⟩
        · have hb : ¬ (!decide (V.str (cutS wi none (some 1)) = V.str "(")) = true := hb
          rw [fo] at hb
          cases hq : isOpen wi with
          | true => exact absurd hq ho
          | false => rw [hq] at hb; exact absurd rfl hb
end
end Law
set_option Elab.async false
set_option linter.all false
set_option maxRecDepth 100000
set_option maxHeartbeats 1000000
namespace Law
open PySem PySem.Spec PyProof.Rows L2 Cor
abbrev sSound : Stmt := topS 29
theorem scSound : FnScope ["tree", "least", "is_truth", "number", "yes", "no"] ["tree", "least", "is_truth"] (defScope sSound) := ⟨rfl, rfl, rfl, by decide +kernel, rfl, by decide +kernel, by decide +kernel⟩
def lfB : Lf → Bool
  | .b _ => true
  | .i _ => false
/-- the leftmost value is a truth -/
def leftB : Tr → Bool
  | .lf l => lfB l
  | .nd _ y _ => leftB y
/-- sound, as the program looks -/
def sndE : Tr → Int → Bool → Bool
  | .lf l, _, k => lfB l == k
  | .nd n y o, m, k => if n ≤ m ∨ PyData.eqv y.d o.d = true then false else sndE y n k && sndE o n k
def spTruthL (m : Nat) : Sp := fun vs H Q _ => ∃ (v : V) (t : Tr), vs = [v] ∧ Tv H v t ∧ t.dep < m ∧ Q (.bl (leftB t)) H
def spSound (m : Nat) : Sp := fun vs H Q _ => ∃ (v : V) (t : Tr) (n : Int) (k : Bool), vs = [v, .int n, .bl k] ∧ Tv H v t ∧ t.dep < m ∧ m ≤ 50 ∧ Q (.bl (sndE t n k)) H
section
variable {P : Program} {w : World} {K : PySem.W.Frag} {mg : Str → Option Value} {base : Heap}
theorem ok_truthL {f : Addr} {fd : FuncData} (F : Fun K "is_truth_tree" "is_truth_tree" sTruthT f fd) (T : GloW mg) (dl : Df P w K mg base "is_leaf" 1 ["tree"] spLeaf) (hm : mg "is_truth_tree" = some (.ref f)) :
    ∀ m, FnOk P w K mg base CX0 (2 + m) f fd ["tree"] (spTruthL m) := by
  intro m
  induction m with
  | zero =>
    refine F.ok scTruthT (k := 1) (fun vs H Q E h => ?_) (fun cdv A outer s H vs Q E hr h => ?_)
    · obtain ⟨v, t, rfl, _⟩ := h
      rfl
    · obtain ⟨v, t, rfl, _, hl, _⟩ := h
      omega
  | succ m IH =>
    have ih : Df P w K mg base "is_truth_tree" (2 + m) ["tree"] (spTruthL m) := ⟨f, fd, IH, hm, F.kp, F.binds fun _ _ _ _ _ _ us hl => match us, hl with | [_], _ => rfl⟩
    refine F.ok scTruthT (k := 2 + m) (fun vs H Q E h => ?_) (fun cdv A outer s H vs Q E hr h => ?_)
    · obtain ⟨v, t, rfl, _⟩ := h
      rfl
    · obtain ⟨v, t, rfl, hv, hl, q⟩ := h
      refine ⟨_, (pss_one (ps_ret (pe_ifExp (pt_val (pe_df (E := E0) dl (hr.mono (by omega)) (by rfl) (pa_cons (pv 0) pa_nil))) (pe_callB (id := "isinstance") (show CallR _ (.builtin "isinstance") (rIsi K) from call_isi) (by rfl) T.isinstance (by decide +kernel) (pa_cons (pv 0) (pa_cons (pe_bltn (v := .ty "bool") (by rfl) T.bool (by decide +kernel) rfl) pa_nil))) (pe_df (E := E0) ih hr (by rfl) (pa_cons (pe_ix ix_tup (pv 0) pe_int (fun _ _ => rfl)) pa_nil))))), ?_⟩
      refine ⟨_, rfl, _, t, rfl, hv, _, rfl, ?_⟩
      cases t with
      | lf l =>
        obtain rfl := hv.lf_of
        cases l with
        | i n => exact ⟨_, rfl, _, _, _, _, _, rfl, .ty "bool", .base (.int n), kit_ty (r := false) (by decide +kernel), q⟩
        | b n => exact ⟨_, rfl, _, _, _, _, _, rfl, .ty "bool", .base (.bl n), kit_ty (r := true) (by decide +kernel), q⟩
      | nd n ty to =>
        obtain ⟨a, y, o, rfl, h1, h2, h3⟩ := hv.nd_of
        have hl : max ty.dep to.dep + 1 < m + 1 := hl
        exact ⟨_, rfl, a, _, _, _, rfl, rfl, SqT.of h1, rfl, _, ty, rfl, h2, by omega, q⟩
theorem ok_sound {f : Addr} {fd : FuncData} (F : Fun K "is_sound" "is_sound" sSound f fd) (T : GloW mg) (dl : Df P w K mg base "is_leaf" 1 ["tree"] spLeaf) (hm : mg "is_sound" = some (.ref f)) :
    ∀ m, FnOk P w K mg base CX0 (2 + m) f fd ["tree", "least", "is_truth"] (spSound m) := by
  intro m
  induction m with
  | zero =>
    refine F.ok scSound (k := 1) (fun vs H Q E h => ?_) (fun cdv A outer s H vs Q E hr h => ?_)
    · obtain ⟨v, t, n, k, rfl, _⟩ := h
      rfl
    · obtain ⟨v, t, n, k, rfl, _, hl, _⟩ := h
      omega
  | succ m IH =>
    have ih : Df P w K mg base "is_sound" (2 + m) ["tree", "least", "is_truth"] (spSound m) := ⟨f, fd, IH, hm, F.kp, F.binds fun _ _ _ _ _ _ us hl => match us, hl with | [_, _, _], _ => rfl⟩
    refine F.ok scSound (k := 2 + m) (fun vs H Q E h => ?_) (fun cdv A outer s H vs Q E hr h => ?_)
    · obtain ⟨v, t, n, k, rfl, _⟩ := h
      rfl
    · obtain ⟨v, t, n, k, rfl, hv, hl, h50, q⟩ := h
      refine ⟨_, (pss_cons (ps_if (pt_val (pe_df (E := E0) dl (hr.mono (by omega)) (by rfl) (pa_cons (pv 0) pa_nil))) (pss_one (ps_ret (pe_cmpR op_eq (pe_callB (id := "isinstance") (show CallR _ (.builtin "isinstance") (rIsi K) from call_isi) (by rfl) T.isinstance (by decide +kernel) (pa_cons (pv 0) (pa_cons (pe_bltn (v := .ty "bool") (by rfl) T.bool (by decide +kernel) rfl) pa_nil))) (pv 2) (nomark _)))) pss_nil)
      (pss_cons (ps_asg (pv 0) (pg_tup rfl (pgs_cons (pg_name (i := 3) scSound.nd rfl (Or.inl rfl)) (pgs_cons (pg_name (i := 4) scSound.nd rfl (Or.inl rfl)) (pgs_cons (pg_name (i := 5) scSound.nd rfl (Or.inl rfl)) pgs_nil)))))
      (pss_cons (ps_if (PW.pt (pw_or (pt_cmpR op_le (pv 3) (pv 1) (nomark _)) (pw_or1 (pt_cmpR (op_eqD hr.units) (pv 4) (pv 5) (nomark _))))) (pss_one (ps_ret pe_bl)) pss_nil)
      (pss_one (ps_ret (pe_and (pe_df (E := E0) ih hr (by rfl) (pa_cons (pv 4) (pa_cons (pv 3) (pa_cons (pv 2) pa_nil)))) (pe_one (pe_df (E := E0) ih hr (by rfl) (pa_cons (pv 5) (pa_cons (pv 3) (pa_cons (pv 2) pa_nil))))))))))), ?_⟩
      refine ⟨_, rfl, _, t, rfl, hv, _, rfl, ?_⟩
      have beq : ∀ a b : Bool, decide (V.bl a = V.bl b) = (a == b) := fun a b => by cases a <;> cases b <;> rfl
      cases t with
      | lf l =>
        obtain rfl := hv.lf_of
        cases l with
        | i j => exact ⟨_, rfl, _, _, _, _, _, rfl, .ty "bool", .base (.int j), kit_ty (r := false) (by decide +kernel), _, rfl, rfl, by rw [beq]; exact q⟩
        | b j => exact ⟨_, rfl, _, _, _, _, _, rfl, .ty "bool", .base (.bl j), kit_ty (r := true) (by decide +kernel), _, rfl, rfl, by rw [beq]; exact q⟩
      | nd j ty to =>
        obtain ⟨a, y, o, rfl, h1, h2, h3⟩ := hv.nd_of
        have hl : max ty.dep to.dep + 1 < m + 1 := hl
        refine ⟨_, rfl, a, _, rfl, SqT.of h1, rfl, _, _, rfl, _, _, rfl, _, _, rfl, rfl, ?_⟩
        refine ⟨_, rfl, _, rfl, _, _, rfl, rfl, _, rfl, ?_⟩
        unfold sndE at q
        by_cases hj : j ≤ n
        · rw [if_pos (.inl hj)] at q
          exact ite2 (fun _ => iteT q) (fun hb => absurd (decide_eq_true hj) hb)
        refine ite2 (fun hb => absurd (of_decide_eq_true hb) hj) (fun _ => ?_)
        refine ⟨_, rfl, _, rfl, _, _, h2.dp, h3.dp, Tr.shaped (by omega), Tr.shaped (by omega), _, rfl, ?_⟩
        refine ite2 (fun hb => ?_) (fun hb => ?_)
        · rw [if_pos (.inr hb)] at q
          exact q
        · rw [if_neg (fun z => z.elim hj hb)] at q
          refine ⟨_, rfl, _, rfl, _, rfl, y, ty, j, k, rfl, h2, by omega, by omega, _, rfl, ?_⟩
          cases hs : sndE ty j k with
          | true =>
            rw [hs] at q
            exact ⟨_, rfl, _, rfl, _, rfl, o, to, j, k, rfl, h3, by omega, by omega, q⟩
          | false =>
            rw [hs] at q
            exact q
end
end Law
set_option Elab.async false
set_option linter.all false
set_option maxRecDepth 100000
set_option maxHeartbeats 1000000
namespace Cor
open PySem PySem.Spec PyProof.Rows L2
/-- signs of ASCII -/
def A7 (x : Str) : Prop := ∀ c ∈ x.cps.toList, c < 128
theorem pre_one (c d : Nat) (r : List Nat) : TL.pre [c] (d :: r) = (d == c) := by
  show (([d] : List Nat) == [c]) = (d == c)
  show (d == c && ([] == ([] : List Nat))) = (d == c)
  rw [show (([] : List Nat) == []) = true from rfl, Bool.and_true]
theorem spl_cons (c d : Nat) (acc r : List Nat) : TL.spl [c] 0 acc (d :: r) = if d = c then acc :: TL.spl [c] 0 [] r else TL.spl [c] 0 (acc ++ [d]) r := by
  show (if TL.pre [c] (d :: r) = true then acc :: TL.spl [c] 0 [] r else TL.spl [c] 0 (acc ++ [d]) r) = _
  rw [pre_one]
  by_cases h : d = c
  · rw [if_pos h, if_pos (beq_iff_eq.mpr h)]
  · rw [if_neg h, if_neg (fun z => h (beq_iff_eq.mp z))]
theorem spl_ne (c : Nat) : ∀ (l acc : List Nat), TL.spl [c] 0 acc l ≠ []
  | [], acc => by show [acc] ≠ []; simp
  | d :: r, acc => by
    rw [spl_cons]
    split
    · simp
    · exact spl_ne c r _
theorem joinL_cons (S p : List Nat) {ps : List (List Nat)} (h : ps ≠ []) : TL.joinL S (p :: ps) = p ++ (S ++ TL.joinL S ps) := by
  cases ps with
  | nil => exact absurd rfl h
  | cons q r => rfl
theorem joinL_spl (c : Nat) : ∀ (l acc : List Nat), TL.joinL [c] (TL.spl [c] 0 acc l) = acc ++ l
  | [], acc => by
    show acc = acc ++ []
    rw [List.append_nil]
  | d :: r, acc => by
    rw [spl_cons]
    split
    · rename_i h
      subst h
      rw [joinL_cons _ _ (spl_ne _ _ _), joinL_spl d r []]
      rfl
    · rw [joinL_spl c r, List.append_assoc]
      rfl
theorem spl_free (c : Nat) : ∀ (l acc : List Nat), c ∉ acc → ∀ p ∈ TL.spl [c] 0 acc l, c ∉ p
  | [], acc, h, p, hp => by
    rw [show p = acc from List.mem_singleton.mp hp]
    exact h
  | d :: r, acc, h, p, hp => by
    rw [spl_cons] at hp
    split at hp
    · rcases List.mem_cons.mp hp with rfl | hp
      · exact h
      · exact spl_free c r [] (by simp) p hp
    · rename_i hd
      exact spl_free c r _ (fun z => by
        rcases List.mem_append.mp z with z | z
        · exact h z
        · exact hd (List.mem_singleton.mp z).symm) p hp
theorem spl_sub (c : Nat) : ∀ (l acc p : List Nat), p ∈ TL.spl [c] 0 acc l → p.length ≤ acc.length + l.length ∧ ∀ d ∈ p, d ∈ acc ∨ d ∈ l
  | [], acc, p, hp => by
    rw [show p = acc from List.mem_singleton.mp hp]
    exact ⟨Nat.le_refl _, fun d hd => .inl hd⟩
  | e :: r, acc, p, hp => by
    rw [spl_cons] at hp
    split at hp
    · rcases List.mem_cons.mp hp with rfl | hp
      · exact ⟨Nat.le_add_right _ _, fun d hd => .inl hd⟩
      · obtain ⟨h1, h2⟩ := spl_sub c r [] p hp
        refine ⟨?_, fun d hd => (h2 d hd).elim (fun z => nomatch z) fun z => .inr (List.mem_cons_of_mem _ z)⟩
        rw [List.length_cons]
        rw [List.length_nil] at h1
        omega
    · obtain ⟨h1, h2⟩ := spl_sub c r _ p hp
      refine ⟨?_, fun d hd => (h2 d hd).elim (fun z => ?_) fun z => .inr (List.mem_cons_of_mem _ z)⟩
      · rw [List.length_append, List.length_singleton] at h1
        rw [List.length_cons]
        omega
      · rcases List.mem_append.mp z with z | z
        · exact .inl z
        · exact .inr (by rw [List.mem_singleton.mp z]; exact List.mem_cons_self)
theorem spl_count (c : Nat) : ∀ (l acc : List Nat), (TL.spl [c] 0 acc l).length ≤ l.length + 1
  | [], acc => Nat.le_refl _
  | d :: r, acc => by
    rw [spl_cons]
    split
    · have := spl_count c r []
      rw [List.length_cons, List.length_cons]
      omega
    · have := spl_count c r (acc ++ [d])
      rw [List.length_cons]
      omega
/-- one sign as a text -/
structure One1 (y : Str) (c : Nat) : Prop where
  e : y.cps.toList = [c]
  k : c < 256
theorem split_eq {y : Str} {c : Nat} (h : One1 y c) (x : Str) : (Txt.split x y).map TL.tl = TL.spl [c] 0 [] x.cps.toList := by
  have e : TL.tl y = [c] := h.e
  have z := TL.split_spl x y (by rw [e]; simp) (TL.kind_ok (by
    rw [← Array.all_toList, h.e]
    show (decide (c < 256) && true) = true
    rw [decide_eq_true h.k]; rfl))
  rw [e] at z
  exact z
theorem split_ne {y : Str} {c : Nat} (h : One1 y c) (x : Str) : Txt.split x y ≠ [] := fun z => by
  have e := split_eq h x
  rw [z] at e
  exact spl_ne c _ _ e.symm
theorem split_back {y : Str} {c : Nat} (h : One1 y c) (x : Str) : Txt.join y (Txt.split x y) = x := by
  rw [TL.join_eq]
  refine TL.ext_tl ?_
  rw [TL.tl_join, split_eq h, show TL.tl y = [c] from h.e, joinL_spl]
  rfl
theorem split_mem {y : Str} {c : Nat} (h : One1 y c) {x p : Str} (hp : p ∈ Txt.split x y) : p.length ≤ x.length ∧ (∀ d ∈ p.cps.toList, d ∈ x.cps.toList) ∧ c ∉ p.cps.toList := by
  have hm : TL.tl p ∈ TL.spl [c] 0 [] x.cps.toList := by
    rw [← split_eq h x]
    exact List.mem_map_of_mem hp
  obtain ⟨h1, h2⟩ := spl_sub c _ _ _ hm
  refine ⟨?_, fun d hd => (h2 d hd).elim (fun z => nomatch z) id, spl_free c _ [] (by simp) _ hm⟩
  rw [← len_cps, ← len_cps]
  rw [List.length_nil, Nat.zero_add] at h1
  exact h1
theorem split_count {y : Str} {c : Nat} (h : One1 y c) (x : Str) : (Txt.split x y).length ≤ x.length + 1 := by
  have e := congrArg List.length (split_eq h x)
  rw [List.length_map] at e
  rw [e, ← len_cps]
  exact spl_count c _ _
theorem split_parts {y : Str} {c : Nat} (h : One1 y c) {ps : List Str} (hne : ps ≠ []) (hp : ∀ p ∈ ps, c ∉ p.cps.toList) : Txt.split (Txt.join y ps) y = ps := by
  rw [TL.join_eq]
  refine TL.map_tl_inj ?_
  rw [split_eq h]
  show TL.spl [c] 0 [] (TL.tl (Str.join y ps)) = _
  rw [TL.tl_join, show TL.tl y = [c] from h.e]
  refine TL.spl_join (fun z => hne (List.map_eq_nil_iff.mp z)) fun p hm => ?_
  obtain ⟨q, hq, rfl⟩ := List.mem_map.mp hm
  exact hp q hq
theorem A7.ok {x : Str} (h : A7 x) : PyData.strOk x = true := by
  unfold PyData.strOk
  rw [Array.all_eq_true]
  intro i hi
  exact decide_eq_true (Nat.lt_trans (h x.cps[i] (Array.mem_toList_iff.mpr (Array.getElem_mem hi))) (by decide))
def strsD (ns : List Str) : List PyData := ns.map .str
theorem lay_strs : ∀ {ns : List Str}, (∀ n ∈ ns, A7 n) → PyData.canLayAll0 (strsD ns) = true
  | [], _ => rfl
  | n :: ns, h => by
    show (PyData.strOk n && PyData.canLayAll0 (strsD ns)) = true
    rw [(h n List.mem_cons_self).ok, lay_strs fun m hm => h m (List.mem_cons_of_mem _ hm)]
    rfl
theorem depth_strs : ∀ ns : List Str, PyData.depthAll (strsD ns) = 0
  | [] => rfl
  | n :: ns => by
    show max 0 (PyData.depthAll (strsD ns)) = 0
    rw [depth_strs ns]; rfl
theorem shaped_strs {ns : List Str} (h : ∀ n ∈ ns, A7 n) : SeqAt.shaped (.list (strsD ns)) = true := by
  unfold SeqAt.shaped
  have e : PyData.depth (.list (strsD ns)) ≤ 64 := by
    show PyData.depthAll (strsD ns) + 1 ≤ 64
    rw [depth_strs]
    decide
  rw [decide_eq_true e, show PyData.canLay0 (.list (strsD ns)) = PyData.canLayAll0 (strsD ns) from rfl, lay_strs h]
  rfl
theorem eqv_strs : ∀ a b : List Str, PyData.eqvAll (strsD a) (strsD b) = decide (a = b)
  | [], [] => rfl
  | [], _ :: _ => rfl
  | _ :: _, [] => rfl
  | x :: a, y :: b => by
    show ((x == y) && PyData.eqvAll (strsD a) (strsD b)) = decide (x :: a = y :: b)
    rw [eqv_strs a b]
    by_cases h : x = y
    · subst h
      rw [beq_self_eq_true, Bool.true_and]
      by_cases h2 : a = b
      · subst h2
        rw [decide_eq_true rfl, decide_eq_true rfl]
      · rw [decide_eq_false h2, decide_eq_false fun z => h2 (List.cons.inj z).2]
    · rw [beq_eq_false_iff_ne.mpr h, Bool.false_and, decide_eq_false fun z => h (List.cons.inj z).1]
theorem one_blank : One1 " " 32 := ⟨by decide +kernel, by decide⟩
end Cor
set_option Elab.async false
set_option linter.all false
set_option maxRecDepth 100000
set_option maxHeartbeats 1000000
namespace Cor
open PySem PySem.Spec PyProof.Rows L2
theorem repl_one (c : Nat) (z : List Nat) : ∀ l : List Nat, StrLaws.replL [c] z l = l.flatMap fun d => if d = c then z else [d]
  | [] => StrLaws.replL_nil
  | d :: r => by
    rw [List.flatMap_cons, ← repl_one c z r]
    show StrLaws.replS [c] z 0 (d :: r) = _
    rw [StrLaws.replS]
    by_cases h : d = c
    · subst h
      rw [if_pos rfl, if_pos (by rfl)]
      rfl
    · rw [if_neg h, if_neg (show ¬ List.take [c].length (d :: r) = [c] from fun e => h (List.cons.inj e).1)]
      rfl
end Cor
namespace Cor
open PySem PySem.Spec PyProof.Rows L2
theorem cps_close : (")" : Str).cps.toList = [41] := by decide +kernel
theorem cps_bclose : (" )" : Str).cps.toList = [32, 41] := by decide +kernel
theorem close_repl (x : Str) : (Txt.replace x ")" " )").cps.toList = x.cps.toList.flatMap fun d => if d = 41 then [32, 41] else [d] := by
  rw [StrLaws.replace_list (by decide), cps_close, cps_bclose, repl_one]
theorem canLay_a7 {x : Str} (h : A7 x) : PyData.canLay0 (.str x) = true := by
  show x.cps.all (· < 0x110000) = true
  rw [← Array.all_toList, List.all_eq_true]
  intro c hc
  have := h c hc
  exact decide_eq_true (by omega)
theorem close_a7 {x : Str} (h : A7 x) : A7 (Txt.replace x ")" " )") := fun c hc => by
  rw [close_repl] at hc
  obtain ⟨d, hd, hc⟩ := List.mem_flatMap.mp hc
  split at hc
  · rcases List.mem_cons.mp hc with rfl | hc
    · decide
    · rw [List.mem_singleton.mp hc]; decide
  · rw [List.mem_singleton.mp hc]; exact h d hd
theorem close_len (x : Str) : (Txt.replace x ")" " )").length ≤ x.length + (x.length + 1) * 2 := by
  have e : (" )" : Str).length = 2 := by decide +kernel
  have := TK.replace_len x ")" " )"
  rw [e] at this
  exact this
end Cor
set_option Elab.async false
set_option linter.all false
set_option maxRecDepth 100000
set_option maxHeartbeats 1000000
namespace Cor
open PySem PySem.Spec PyProof.Rows L2 CwR
section
variable {X : Cx} {o e : Expr} {es : List Expr} {te to : TE} {t : TA} {sp : Sp} {k : Nat} {ps : List Str} {x : Str} {p pos : Pos}
theorem pet_m1 {id : String} {name : Str} {apos pos : Pos} {r : V → List V → Hp → VK → Prop} (slot : Slot "str" name id) (ty : typeOf (.builtin id) = pure (.type "method_descriptor")) (rule : MtR X id r) (ho : PET X o to) (he : PE X e te)
    (hs : starEach [e] X.env = [(false, eval e X.env)] := by rfl) (hbase : attributeBase o name X.env (eval o X.env) = eval o X.env := by rfl) (hline : (apos.endLine == pos.line) = true := by rfl) :
    PET X (.Call (.Attribute o name apos) [e] [] pos) (tM1 r to te) := by
  intro pins s σ H Q h0 I h
  refine PySem.Call_method1 hbase hs hline (thn (ho pins s σ H _ h0 I h) fun v s1 ⟨x, H1, I1, r1, q1⟩ => ?_)
  obtain ⟨⟨a, rfl⟩, q1⟩ := q1
  obtain ⟨t, rfl⟩ := _root_.id r1
  refine ⟨"str", _, F.plainAttrs_str, slot, ty, typeIs_str _ _ _, (fun _ e => nomatch e), Calls.callWith_builtin rfl (Calls.evalArgs_plain (Calls.spliced_cons ?_))⟩
  exact thn (he.run pins s1 σ H1 _ I1 q1) fun u s2 ⟨y, H2, I2, r2, q2⟩ => Calls.spliced_nil (rule pins s2 σ H2 _ [y] _ [u] Q I2 r1 (.cons r2 .nil) q2)
theorem pet_split {apos pos : Pos} (ho : PET X o to) (he : PE X e te) (hs : starEach [e] X.env = [(false, eval e X.env)] := by rfl) (hbase : attributeBase o "split" X.env (eval o X.env) = eval o X.env := by rfl) (hline : (apos.endLine == pos.line) = true := by rfl) :
    PET X (.Call (.Attribute o "split" apos) [e] [] pos) (tM1 (fun x xs H Q => ∃ a b, x = .str a ∧ xs = [.str b] ∧ (b.length == 0) = false ∧ a.length + 2 ≤ sizeLine ∧ rNewStrs (Txt.split a b) H Q) to te) :=
  pet_m1 F.slot_str_split F.type_str_split mt_split ho he hs hbase hline
theorem pet_df (D : Df X.prog X.w X.K X.mg X.base x k ps sp) (hr : Room k X.A) (hg : Gl X x) (ha : PAT X (e :: es) t)
    (hdb : (x == ("__debug__" : Str)) = false := by decide) (he : starEach (e :: es) X.env = (false, eval e X.env) :: starEach es X.env := by rfl) (hpl : (backTo pos (starEach es X.env)).any (·.1) = false := by rfl) :
    PET X (.Call (.Name x p) (e :: es) [] pos) (tCall sp [] E0 t) := by
  obtain ⟨f, fd, F, m, kp, b⟩ := D
  intro pins s σ H Q h0 I h
  refine wpAny_Call_Name_kw (ld_glob I hg m ?_ hdb)
  refine PySem.W.callWith_K (h₀ := X.base) I.ok.mod.kin kp (thn (ha pos pins s σ H _ h0 I h) fun us s1 ⟨vs, H1, I1, r, q⟩ => ⟨I1.kIn, ?_⟩) he hpl
  exact run_fn F hr b .nil pass0 I1 r q
theorem pst_set {i : Nat} {x : Str} {e : Expr} {te : TE} {pos' : Pos} (hN : X.N.Nodup) (hi : X.N[i]? = some x) (hx : Loc X.env.scope x) (he : PET X e te) (hs : swapsWith e (some (.Name x pos')) pos.line X.env = pure false := by rfl) (hf : X.fn x = true ∨ X.env.scope.names.lookup x = some .local := by first | exact .inl rfl | exact .inr rfl | assumption) :
    PST X (.Assign [.Name x pos'] e pos) (tAsg te (gName i)) := by
  intro pins s σ H D h0 I h
  refine wpAny_Assign_Name (thn (he pins s σ H _ h0 I h) fun v s1 ⟨y, H1, I1, r1, q1⟩ => ?_) hs
  exact store_ok I1 hN hi hx r1 (fun s2 I2 => ⟨_, H1, I2, q1⟩) hf
end
section
variable {P : Program} {w : World} {K : PySem.W.Frag} {mg : Str → Option Value} {base : Heap}
/-- as Fun.ok; a token is out when the body begins -/
theorem okT {x qual : Str} {st : Stmt} {f : Addr} {fd : FuncData} {N ps : List Str} {k : Nat} {sp : Sp} (F : Fun K x qual st f fd) (S : FnScope N ps (defScope st)) (hnc : ∀ y ∈ (defScope st).names, y.2 ≠ .cell) (hps : 1 ≤ ps.length) (len : ∀ vs H Q E, sp vs H Q E → vs.length = ps.length)
    (hbody : ∀ (cdv : Value) (A : Around) (outer : List Env) (s : Shared) (H : Hp) (vs : List V) (Q : VK) (E : XK), Room k (A.deeper (envOfC qual (defScope st) s.heap.objs.size f cdv)) → sp vs H Q E →
      ∃ t, PSsT (cxOf CX0 P w K mg base N qual (defScope st) f cdv A outer s H E) (defBody st) t ∧ t { nx := fun _ H' => Q .non H', rt := Q } (start N vs) H) : FnOk P w K mg base CX0 (k + 1) f fd ps sp := by
  obtain ⟨oc, od, kV, doc, pm, an, cdv, ct, osl, rfl, lk, hcd⟩ := F.ex
  exact fn_ofT lk hcd S hnc hps len fun A outer s H vs Q E hr hsp => hbody cdv A outer s H vs Q E hr hsp
theorem okTX {x qual : Str} {st : Stmt} {f : Addr} {fd : FuncData} {N ps : List Str} {k : Nat} {sp : Sp} (F : Fun K x qual st f fd) (S : FnScope N ps (defScope st)) (hnc : ∀ y ∈ (defScope st).names, y.2 ≠ .cell) (hps : 1 ≤ ps.length) (len : ∀ vs H Q E, sp vs H Q E → vs.length = ps.length)
    (hbody : ∀ (cdv : Value) (A : Around) (outer : List Env) (s : Shared) (H : Hp) (vs : List V) (Q : VK) (E : XK), Room k (A.deeper (envOfC qual (defScope st) s.heap.objs.size f cdv)) → sp vs H Q E →
      ∃ t, PSsT (cxOf (L2.CX P w) P w K mg base N qual (defScope st) f cdv A outer s H E) (defBody st) t ∧ t { nx := fun _ H' => Q .non H', rt := Q } (start N vs) H) : FnOk P w K mg base (L2.CX P w) (k + 1) f fd ps sp := by
  obtain ⟨oc, od, kV, doc, pm, an, cdv, ct, osl, rfl, lk, hcd⟩ := F.ex
  exact fn_ofT lk hcd S hnc hps len fun A outer s H vs Q E hr hsp => hbody cdv A outer s H vs Q E hr hsp
end
end Cor
set_option Elab.async false
set_option linter.all false
set_option maxRecDepth 100000
set_option maxHeartbeats 1000000
namespace Law
open PySem PySem.Spec PyProof.Rows L2 Cor
/-- a draw -/
def spTk : Sp := fun vs H Q _ => ∃ (p : Addr) (m : Int), vs = [.ref p, .int m] ∧ Box H p ∧ 0 < m ∧ m < 2 ^ 90 ∧ ∀ (r : Int) (H' : Hp), SameBut p H H' → Box H' p → 0 ≤ r → r < m → Q (.int r) H'
theorem spTk_of {vs : List V} {H : Hp} {Q : VK} {E : XK} (h : spTk vs H Q E) : spTake vs H Q E := by
  obtain ⟨p, m, rfl, hb, m0, m1, q⟩ := h
  exact ⟨p, m, rfl, hb, m0, m1, fun b s c r s0 s1 r0 r1 => q r _ SameBut.upd ⟨b, s, c, upd_same, s0, s1⟩ r0 r1⟩
theorem _root_.Cor.Box.ne {H : Hp} {p q : Addr} (h : Box H p) (n : H q = none) : q ≠ p := fun z => by
  obtain ⟨b, s, c, e, _⟩ := h
  rw [z, e] at n
  cases n
theorem _root_.Cor.Box.kp {H H' : Hp} {p : Addr} (h : Box H p) (s : SameBut p H H') : Kp H H' := let ⟨_, _, _, e, _⟩ := h; s.kp e
theorem _root_.Cor.Box.same {H H' : Hp} {p : Addr} (h : Box H p) (s : Same H H') : Box H' p := let ⟨b, s', c, e, x⟩ := h; ⟨b, s', c, s _ _ e, x⟩
abbrev sNums : Stmt := topS 36
abbrev sLeafL : Stmt := topS 37
theorem scNums : FnScope ["_law_box_here", "_law_many", "_law_first", "_law_step", "_law_k"] ["_law_box_here", "_law_many"] (defScope sNums) := ⟨rfl, rfl, rfl, by decide +kernel, rfl, by decide +kernel, by decide +kernel⟩
theorem scLeafL : FnScope ["_law_box_here", "_law_is_truth", "_law_great"] ["_law_box_here", "_law_is_truth"] (defScope sLeafL) := ⟨rfl, rfl, rfl, by decide +kernel, rfl, by decide +kernel, by decide +kernel⟩
def spLeafL : Sp := fun vs H Q _ => ∃ (p : Addr) (k : Bool), vs = [.ref p, .bl k] ∧ Box H p ∧ ∀ l H', SameBut p H H' → Box H' p → Lg k 66 l → Q (Lf.v l) H'
def numsL (a c : Int) (i : Nat) : List Int := (List.range i).map fun (j : Nat) => a + c * (0 + (j : Int))
theorem numsL_len {a c : Int} {i : Nat} : (numsL a c i).length = i := by unfold numsL; rw [List.length_map, List.length_range]
theorem numsL_succ {a c : Int} {i : Nat} : numsL a c (i + 1) = numsL a c i ++ [a + c * (0 + (i : Int))] := by
  unfold numsL
  rw [List.range_succ, List.map_append]
  rfl
theorem numsL_mem {a c n : Int} {i : Nat} (h : n ∈ numsL a c i) : ∃ j : Nat, j < i ∧ n = a + c * (0 + (j : Int)) := by
  obtain ⟨j, hj, e⟩ := List.mem_map.mp h
  exact ⟨j, List.mem_range.mp hj, e.symm⟩
theorem numsL_asc {a c : Int} {i : Nat} (hc : 0 < c) : Asc (numsL a c i) := by
  unfold numsL Asc
  rw [List.pairwise_map]
  refine List.Pairwise.imp (fun {x y} hxy => ?_) List.pairwise_lt_range
  have : c * (0 + (x : Int)) < c * (0 + (y : Int)) := Int.mul_lt_mul_of_pos_left (by omega) hc
  omega
section
variable {P : Program} {w : World} {K : PySem.W.Frag} {mg : Str → Option Value} {base : Heap}
theorem ok_leafL {f : Addr} {fd : FuncData} (F : Fun K "_law_leaf" "_law_leaf" sLeafL f fd) (dt : Df P w K mg base "_law_take" 1 ["_law_box_here", "_law_many"] spTk) : FnOk P w K mg base CX0 2 f fd ["_law_box_here", "_law_is_truth"] spLeafL := by
  refine F.ok scLeafL (fun vs H Q E h => ?_) (fun cdv A outer s H vs Q E hr h => ?_)
  · obtain ⟨p, k, rfl, _⟩ := h
    rfl
  · obtain ⟨p, k, rfl, hb, q⟩ := h
    refine ⟨_, (pss_cons (ps_if (pt_val (pv 1)) (pss_one (ps_ret (pe_cmpR op_eq (pe_df (E := E0) dt hr (by rfl) (pa_cons (pv 0) (pa_cons pe_int pa_nil))) pe_int (nomark _)))) pss_nil)
      (pss_cons (ps_set (i := 2) scLeafL.nd rfl (Or.inl rfl) (pe_op op_sub (pe_op op_pow pe_int pe_int) (pe_df (E := E0) dt hr (by rfl) (pa_cons (pv 0) (pa_cons (pe_op op_mul pe_int (pe_op op_pow pe_int pe_int)) pa_nil)))))
      (pss_one (ps_ret (pe_ix ix_list (pe_lst (pa_cons pe_int (pa_cons pe_int (pa_cons (pe_op op_sub pe_int pe_int) (pa_cons pe_int (pa_cons (pe_op op_sub (pe_df (E := E0) dt hr (by rfl) (pa_cons (pv 0) (pa_cons pe_int pa_nil))) pe_int) (pa_cons (pv 2) pa_nil))))))) (pe_df (E := E0) dt hr (by rfl) (pa_cons (pv 0) (pa_cons pe_int pa_nil))) (fun _ _ => rfl)))))), ?_⟩
    refine ⟨_, rfl, _, rfl, ?_⟩
    cases k with
    | true =>
      refine ⟨_, rfl, p, 2, rfl, hb, by decide, by decide, fun r H' s1 b1 r0 r1 => ?_⟩
      refine ⟨rfl, ?_⟩
      exact q (.b (decide (V.int r = V.int 0))) H' s1 b1 rfl
    | false =>
      refine ⟨_, _, rfl, rfl, ⟨by decide, by decide, by decide⟩, _, rfl, _, _, rfl, rfl, ⟨by decide, by decide, by decide⟩, _, _, rfl, rfl, .inl ⟨by decide, by decide⟩, ?_⟩
      refine ⟨p, _, rfl, hb, by decide, by decide, fun r H1 s1 b1 r0 r1 => ?_⟩
      refine ⟨_, _, rfl, rfl, ?_⟩
      have hg0 : (10 : Int) ^ (Int.toNat 19) = 10000000000000000000 := by decide
      have r1' : r < 2 * 10000000000000000000 := by rw [← hg0]; exact r1
      refine ⟨_, _, rfl, rfl, _, rfl, p, 9, rfl, b1, by decide, by decide, fun r2 H2 s2 b2 r20 r21 => ?_⟩
      refine ⟨_, _, rfl, rfl, _, rfl, (by show 6 ≤ sizeLine; decide), fun l nl => ?_⟩
      rw [hg0]
      have sl := same_upd (o := .lst [.int 0, .int 1, .int (0 - 1), .int 2, .int (r2 - 4), .int (10000000000000000000 - r)]) nl
      refine ⟨_, rfl, p, 6, rfl, b2.same sl, by decide, by decide, fun r3 H3 s3 b3 r30 r31 => ?_⟩
      have el := s3 l _ (b2.ne nl) upd_same
      have s13 : SameBut p H H3 := s1.trans (s2.trans ((Cor.Same.but sl).trans s3))
      have fin : ∀ n : Int, n.natAbs < 2 ^ 66 → Q (.int n) H3 := fun n hn => q (.i n) H3 s13 b3 ⟨rfl, hn⟩
      have cs : r3 = 0 ∨ r3 = 1 ∨ r3 = 2 ∨ r3 = 3 ∨ r3 = 4 ∨ r3 = 5 := by omega
      rcases cs with rfl | rfl | rfl | rfl | rfl | rfl
      · exact ⟨l, _, _, _, rfl, rfl, SqL.of el, rfl, fin _ (by omega)⟩
      · exact ⟨l, _, _, _, rfl, rfl, SqL.of el, rfl, fin _ (by omega)⟩
      · exact ⟨l, _, _, _, rfl, rfl, SqL.of el, rfl, fin _ (by omega)⟩
      · exact ⟨l, _, _, _, rfl, rfl, SqL.of el, rfl, fin _ (by omega)⟩
      · exact ⟨l, _, _, _, rfl, rfl, SqL.of el, rfl, fin _ (by omega)⟩
      · exact ⟨l, _, _, _, rfl, rfl, SqL.of el, rfl, fin _ (by omega)⟩
end
end Law
set_option Elab.async false
set_option linter.all false
set_option maxRecDepth 100000
set_option maxHeartbeats 1000000
namespace Law
open PySem PySem.Spec PyProof.Rows L2 Cor
abbrev sRaw : Stmt := topS 38
theorem scRaw : FnScope ["_law_box_here", "_law_numbers_here", "_law_is_truth", "_law_deep_here", "_law_number"] ["_law_box_here", "_law_numbers_here", "_law_is_truth", "_law_deep_here"] (defScope sRaw) := ⟨rfl, rfl, rfl, by decide +kernel, rfl, by decide +kernel, by decide +kernel⟩
def Rw (k : Bool) (B : Nat) (S : List Int) : Tr → Prop
  | .lf v => Lg k B v
  | .nd n y o => n ∈ S ∧ Rw k B S y ∧ Rw k B S o
def spRaw (m : Nat) : Sp := fun vs H Q _ => ∃ (p a : Addr) (k : Bool) (d : Int) (S : List Int), vs = [.ref p, .ref a, .bl k, .int d] ∧ Box H p ∧ H a = some (.lst (S.map V.int)) ∧ a ≠ p ∧ 0 ≤ d ∧ d < m ∧ S.length ≤ 12 ∧
  ∀ v t H', SameBut p H H' → Box H' p → Tv H' v t → Rw k 66 S t → (t.dep : Int) ≤ d → Q v H'
/-- the static method m of Worth -/
def SmD (P : Program) (w : World) (K : PySem.W.Frag) (mg : Str → Option Value) (base : Heap) (C : Addr) (m : Str) (k : Nat) (sp : Sp) : Prop := ∃ f, Stm K mg "Worth" C m f ∧ MdR P w K mg base k f sp
section
variable {X : Cx} {e : Expr} {es : List Expr} {ta : TA} {m : Str} {p1 p2 pos : Pos} {C : Addr} {k : Nat} {sp : Sp}
theorem pe_smD {pl : Sem Bool} (D : SmD X.prog X.w X.K X.mg X.base C m k sp) (hr : Room k X.A) (hg : Gl X "Worth") (ha : PA X (e :: es) ta)
    (hc : eval (.Call (.Attribute (.Name "Worth" p1) m p2) (e :: es) [] pos) X.env = (do
      let ov ← eval (.Name "Worth" p1) X.env
      standAt p2.atName
      let (f, first) ← holding [ov] (getMethod ov m pl)
      callWith pos f first (backTo pos (starEach (e :: es) X.env)) (backToKw pos (keywordEach [] X.env))) := by rfl)
    (he : starEach (e :: es) X.env = (false, eval e X.env) :: starEach es X.env := by rfl) (hpl : (backTo pos (starEach es X.env)).any (·.1) = false := by rfl) :
    PE X (.Call (.Attribute (.Name "Worth" p1) m p2) (e :: es) [] pos) (fun σ H Q => ta σ H fun vs H1 => sp vs H1 Q E0) := by
  obtain ⟨f, T, M⟩ := D
  exact pe_sm T M hr hg ha (by decide) hc he hpl
end
/-- x is given for the value t, in its one form -/
def Mg (C : Addr) (k : Bool) (S : List Int) (t : Tr) (H : Hp) (x : V) : Prop := ∃ t', Given C H x t' ∧ Cn (Lg k 66) S t' ∧ ∀ r : Rho, t'.ev r = t.ev r
theorem Mg.kp {C : Addr} {k : Bool} {S : List Int} {t : Tr} {H H' : Hp} {x : V} (kp : Kp H H') (h : Mg C k S t H x) : Mg C k S t H' x := let ⟨t', a, b⟩ := h; ⟨t', a.kp kp, b⟩
section
variable {P : Program} {w : World} {K : PySem.W.Frag} {mg : Str → Option Value} {base : Heap} {C : Addr}
theorem ok_raw {f : Addr} {fd : FuncData} (F : Fun K "_law_raw" "_law_raw" sRaw f fd) (T : GloW mg) (dt : Df P w K mg base "_law_take" 1 ["_law_box_here", "_law_many"] spTk) (dl : Df P w K mg base "_law_leaf" 2 ["_law_box_here", "_law_is_truth"] spLeafL) (hm : mg "_law_raw" = some (.ref f)) :
    ∀ m, FnOk P w K mg base CX0 (3 + m) f fd ["_law_box_here", "_law_numbers_here", "_law_is_truth", "_law_deep_here"] (spRaw m) := by
  intro m
  induction m with
  | zero =>
    refine F.ok scRaw (k := 2) (fun vs H Q E h => ?_) (fun cdv A outer s H vs Q E hr h => ?_)
    · obtain ⟨p, a, k, d, S, rfl, _⟩ := h
      rfl
    · obtain ⟨p, a, k, d, S, rfl, _, _, _, d0, d1, _⟩ := h
      omega
  | succ m IH =>
    have ih : Df P w K mg base "_law_raw" (3 + m) ["_law_box_here", "_law_numbers_here", "_law_is_truth", "_law_deep_here"] (spRaw m) := ⟨f, fd, IH, hm, F.kp, F.binds fun _ _ _ _ _ _ us hl => match us, hl with | [_, _, _, _], _ => rfl⟩
    refine F.ok scRaw (k := 3 + m) (fun vs H Q E h => ?_) (fun cdv A outer s H vs Q E hr h => ?_)
    · obtain ⟨p, a, k, d, S, rfl, _⟩ := h
      rfl
    · obtain ⟨p, a, k, d, S, rfl, hb, ha, ne, d0, d1, hl, q⟩ := h
      refine ⟨_, (pss_cons (ps_if (PW.pt (pw_or (pt_cmpR op_eq (pv 3) pe_int (nomark _)) (pw_or (pt_cmpR (op_eqD hr.units) (pv 1) (pe_lst pa_nil) (nomark _)) (pw_or1 (pt_cmpR op_eq (pe_df (E := E0) dt (hr.mono (by omega)) (by rfl) (pa_cons (pv 0) (pa_cons pe_int pa_nil))) pe_int (nomark _)))))) (pss_one (ps_ret (pe_df (E := E0) dl (hr.mono (by omega)) (by rfl) (pa_cons (pv 0) (pa_cons (pv 2) pa_nil))))) pss_nil)
      (pss_cons (ps_set (i := 4) scRaw.nd rfl (Or.inl rfl) (pe_ix ix_list (pv 1) (pe_df (E := E0) dt (hr.mono (by omega)) (by rfl) (pa_cons (pv 0) (pa_cons (pe_callB call_len_seq (by rfl) T.len PySem.boot_len (pa_cons (pv 1) pa_nil)) pa_nil))) (fun _ _ => rfl)))
      (pss_one (ps_ret (pe_tup (pa_cons (pv 4) (pa_cons (pe_df (E := E0) ih hr (by rfl) (pa_cons (pv 0) (pa_cons (pv 1) (pa_cons (pv 2) (pa_cons (pe_op op_sub (pv 3) pe_int) pa_nil))))) (pa_cons (pe_df (E := E0) ih hr (by rfl) (pa_cons (pv 0) (pa_cons (pv 1) (pa_cons (pv 2) (pa_cons (pe_op op_sub (pv 3) pe_int) pa_nil))))) pa_nil)))))))), ?_⟩
      have lq : ∀ H1, SameBut p H H1 → Box H1 p → spLeafL [.ref p, .bl k] H1 Q E0 := fun H1 s1 b1 => ⟨p, k, rfl, b1, fun l H2 s2 b2 hl => q _ (.lf l) H2 (s1.trans s2) b2 (.lf l) hl d0⟩
      refine ⟨_, rfl, rfl, _, rfl, ?_⟩
      refine ite2 (fun hd => ⟨_, rfl, _, rfl, lq H SameBut.refl hb⟩) (fun hd => ?_)
      have dne : d ≠ 0 := fun z => hd (decide_eq_true (by rw [z]))
      refine ⟨_, rfl, (by show 0 ≤ sizeLine; decide), fun p0 n0 => ?_⟩
      have s0 := same_upd (o := .lst []) n0
      have e0 := s0 _ _ ha
      refine ⟨_, _, .lst (SqL.of e0) (dp_ints _), .lst (SqL.of upd_same) .nil, shaped_ints _, shaped_ints [], _, rfl, ?_⟩
      rw [eqv_nil]
      refine ite2 (fun hn => ⟨_, rfl, _, rfl, lq _ (Cor.Same.but s0) (hb.same s0)⟩) (fun hn => ?_)
      have sne : S ≠ [] := fun z => hn (decide_eq_true z)
      refine ⟨_, rfl, p, 5, rfl, hb.same s0, by decide, by decide, fun r H1 s1 b1 r0 r1 => ?_⟩
      have s01 : SameBut p H H1 := (Cor.Same.but s0).trans s1
      refine ⟨rfl, _, rfl, ?_⟩
      refine ite2 (fun hz => ⟨_, rfl, _, rfl, lq _ s01 b1⟩) (fun hz => ?_)
      have e1 := s01 a _ ne ha
      have lp := List.length_pos_iff.mpr sne
      refine ⟨_, rfl, _, rfl, _, rfl, a, _, rfl, .inl (SqL.of e1), ?_⟩
      rw [List.length_map]
      refine ⟨p, _, rfl, b1, by omega, by omega, fun r2 H2 s2 b2 r20 r21 => ?_⟩
      have e2 := s2 a _ ne e1
      have hi : r2.toNat < S.length := by omega
      refine ⟨a, _, _, _, rfl, rfl, SqL.of e2, atI_ints r21 r20, ?_⟩
      have nS : S.getD r2.toNat 0 ∈ S := by
        rw [List.getD_eq_getElem?_getD, List.getElem?_eq_getElem hi]
        exact List.getElem_mem hi
      generalize S.getD r2.toNat 0 = n at nS
      refine ⟨_, rfl, _, rfl, _, rfl, _, rfl, _, rfl, _, _, rfl, rfl, ?_⟩
      refine ⟨p, a, k, d - 1, S, rfl, b2, e2, ne, by omega, by omega, hl, fun v3 t3 H3 s3 b3 h3 w3 l3 => ?_⟩
      have e3 := s3 a _ ne e2
      refine ⟨_, rfl, _, rfl, _, rfl, _, rfl, _, _, rfl, rfl, ?_⟩
      refine ⟨p, a, k, d - 1, S, rfl, b3, e3, ne, by omega, by omega, hl, fun v4 t4 H4 s4 b4 h4 w4 l4 => ?_⟩
      refine ⟨(by show 3 ≤ sizeLine; decide), fun p5 n5 => ?_⟩
      have s5 := same_upd (o := .tup [.int n, v3, v4]) n5
      refine q _ (.nd n t3 t4) _ (s01.trans (s2.trans (s3.trans (s4.trans (Cor.Same.but s5))))) (b4.same s5) (.nd upd_same ((h3.kp (b3.kp s4)).same s5) (h4.same s5)) ⟨nS, w3, w4⟩ ?_
      show ((max t3.dep t4.dep + 1 : Nat) : Int) ≤ d
      omega
end
end Law
set_option Elab.async false
set_option linter.all false
set_option maxRecDepth 100000
set_option maxHeartbeats 1000000
namespace Law
open PySem PySem.Spec PyProof.Rows L2 Cor
/-- x is a worth over the numbers S, with the values f -/
def Val (C : Addr) (S : List Int) (k : Bool) (B : Nat) (f : Rho → Lf) (H : Hp) (x : V) : Prop := ∃ a t, x = .ref a ∧ Wo C H a t ∧ Cn (Lg k B) S t ∧ ∀ r : Rho, t.ev r = f r
theorem Val.kp {C : Addr} {S : List Int} {k : Bool} {B : Nat} {f : Rho → Lf} {H H' : Hp} {x : V} (kp : Kp H H') (h : Val C S k B f H x) : Val C S k B f H' x := let ⟨a, t, e, w, c⟩ := h; ⟨a, t, e, w.kp kp, c⟩
theorem Val.same {C : Addr} {S : List Int} {k : Bool} {B : Nat} {f : Rho → Lf} {H H' : Hp} {x : V} (s : Same H H') (h : Val C S k B f H x) : Val C S k B f H' x := h.kp s.kp
def IsW (C : Addr) (H : Hp) (x : V) : Prop := ∃ a dx v, x = .ref a ∧ H a = some (.ins C dx [("tree", v)])
end Law
set_option Elab.async false
set_option linter.all false
set_option maxRecDepth 100000
set_option maxHeartbeats 2000000
namespace Cor
open PySem PySem.Spec PyProof.Rows L2 LamX NdefX
theorem law_callGT {P : Program} {w : World} {K : PySem.W.Frag} {mg mb : Str → Option Value} {k : Nat} {fa a : Addr} {cs : List (Addr × Addr)} {fd : FuncData} {x : Str} {sp : Sp} {s1 : Shared} {vs : List Value} {ns : List Int}
    (KX : K.In s1.heap) (hns : s1.heap.Ns mainGlobals mg) (hb : s1.heap.Ns builtinsNs mb) (hbb : ∀ x : Str, x ≠ "__name__" → mb x = bootBuiltins x) (hlim : s1.heap.NoLimit) (hg : s1.gens = #[])
    (tabs : ∀ p ∈ cs, s1.heap.get? p.2 = some { cls := .none, data := .fields #[] }) (notK : ∀ p ∈ cs, K.lookup p.2 = none) (heads : ∀ p ∈ cs, PySem.W.CodeHd s1.heap p.1 p.2)
    (bmod : ∃ (bm : Addr) (ob : Obj), mg "__builtins__" = some (.ref bm) ∧ bm ≠ builtinsNs ∧ s1.heap.get? bm = some ob ∧ ob.cls = .type "module" ∧ ob.dict = some builtinsNs ∧ ob.data = .plain)
    (ha : s1.heap.get? a = some { cls := .type "list", data := .seq vs.toArray }) (hi : IntsAre vs ns) (hl : ns.length ≤ sizeLine) (hr : Room k callerA)
    (F : ∀ base : Heap, K.In base → base.Ns mainGlobals mg → (∀ p ∈ cs, TabB base mg p.1 p.2) → FnG P w K mg base CX0 k fa fd [x] sp) (hbind : ∀ (s : Shared) (u : Value), BindsTo s fd ⟨[u], []⟩ [(x, u)])
    (hsp : ∀ H : Hp, (∀ p ∈ cs, H p.2 = some (.tbl #[])) → SqL K H a (ns.map V.int) → sp [.ref a] H (fun v _ => v = .bl true) fun _ _ _ => False) :
    codeAny (model P w) callerA (.call (.ref fa) ⟨[.ref a], []⟩) (fun r s' => r = .ok (.ret (.bool true)) ∧ OldK s1.heap s'.heap ∧ s'.os = s1.os ∧ AllBare s'.gens) s1 := by
  have rv := vals_ints hi
  have lenV := hi.length
  let L : HO := .frz { cls := .type "list", data := .seq vs.toArray } (.lst (ns.map V.int))
  let isT : Addr → Bool := fun b => cs.any fun p => decide (p.2 = b)
  have isT_of : ∀ {b}, isT b = true → ∃ p ∈ cs, p.2 = b := fun {b} z => by
    obtain ⟨p, hp, e⟩ := List.any_eq_true.mp z
    exact ⟨p, hp, of_decide_eq_true e⟩
  have isT_mem : ∀ p ∈ cs, isT p.2 = true := fun p hp => List.any_eq_true.mpr ⟨p, hp, decide_eq_true rfl⟩
  have tabAt : ∀ {b}, isT b = true → s1.heap.get? b = some { cls := .none, data := .fields #[] } := fun {b} z => by
    obtain ⟨p, hp, e⟩ := isT_of z
    rw [← e]
    exact tabs p hp
  have nTa : isT a = false := by
    cases z : isT a with
    | false => rfl
    | true =>
      have e := tabAt z
      rw [ha] at e
      have y : Data.seq vs.toArray _ = Data.fields #[] := congrArg Obj.data (Option.some.inj e)
      cases y
  let H : Hp := fun b => if isT b = true then some (.tbl #[]) else if b = a ∧ K.lookup a = none then some L else none
  have inH : ∀ b u, H b = some u → (isT b = true ∧ u = .tbl #[]) ∨ (b = a ∧ K.lookup a = none ∧ u = L) := fun b u z => by
    cases y : isT b with
    | true =>
      have z2 : some (HO.tbl #[]) = some u := (if_pos y).symm.trans z
      exact .inl ⟨rfl, (Option.some.inj z2).symm⟩
    | false =>
      have y' : ¬ isT b = true := by rw [y]; exact Bool.false_ne_true
      by_cases c : b = a ∧ K.lookup a = none
      · have z2 : some L = some u := (if_pos c).symm.trans ((if_neg y').symm.trans z)
        exact .inr ⟨c.1, c.2, (Option.some.inj z2).symm⟩
      · have z2 : none = some u := (if_neg c).symm.trans ((if_neg y').symm.trans z)
        cases z2
  have hT : ∀ p ∈ cs, H p.2 = some (.tbl #[]) := fun p hp => if_pos (isT_mem p hp)
  have hok : HOk P w H s1.heap := fun b u z => by
    rcases inH b u z with ⟨y, rfl⟩ | ⟨rfl, _, rfl⟩
    · exact tabAt y
    · exact ⟨ha, by rw [List.length_map]; exact hl, vs, _, rv, ha⟩
  have hS : SqL K H a (ns.map V.int) := by
    cases hk : K.lookup a with
    | none => exact .inl (.inr ⟨{ cls := .type "list", data := .seq vs.toArray }, (if_neg (by rw [nTa]; exact Bool.false_ne_true)).trans (if_pos ⟨rfl, hk⟩)⟩)
    | some o =>
      have e := KX a o hk
      rw [ha] at e
      cases e
      exact .inr ⟨_, vs.toArray, _, hk, rfl, rfl, rfl, by rw [List.size_toArray, lenV]; exact hl, by simpa using rv⟩
  -- what is neither a list nor an empty table is not tracked
  have plain : ∀ {b : Addr} {o : Obj}, s1.heap.get? b = some o → (∀ vs n, o.data ≠ .seq vs n) → o.data ≠ .fields #[] → H b = none := fun {b o} e n1 n2 => by
    cases z : H b with
    | none => rfl
    | some u =>
      rcases inH b u z with ⟨y, _⟩ | ⟨rfl, _, _⟩
      · rw [tabAt y] at e
        cases e
        exact absurd rfl n2
      · rw [ha] at e
        cases e
        exact absurd rfl (n1 _ _)
  have nsK : ∀ {b : Addr} {m : Str → Option Value}, s1.heap.Ns b m → (hidT s1.heap H).Ns b m := fun {b m} ⟨o, es, ep, e, dd, r⟩ => ⟨o, es, ep, hidT_get e (plain e (fun _ _ y => by rw [dd] at y; cases y) fun y => by rw [dd] at y; cases y), dd, r⟩
  have kb : K.In (hidT s1.heap H) := fun b o e => hidT_get (KX b o e) (by
    cases z : H b with
    | none => rfl
    | some u =>
      rcases inH b u z with ⟨y, _⟩ | ⟨rfl, h2, _⟩
      · obtain ⟨p, hp, ep⟩ := isT_of y
        rw [← ep, notK p hp] at e
        cases e
      · rw [h2] at e
        cases e)
  have md : Mod K mg (hidT s1.heap H) := ⟨kb, nsK hns, ⟨mb, nsK hb, hbb⟩, let ⟨mc, h1, h2⟩ := hlim; ⟨mc, nsK h1, h2⟩⟩
  have TB : ∀ p ∈ cs, TabB (hidT s1.heap H) mg p.1 p.2 := fun p hp => by
    have tp := tabs p hp
    refine ⟨?_, ?_, fun z => ?_⟩
    · obtain ⟨o, us, file, tf, flags, tg, inF, text, tt, e1, r1, r2, r3, rest⟩ := heads p hp
      exact ⟨o, us, file, tf, flags, tg, inF, text, tt, hidT_get e1 (plain e1 (fun _ _ y => by rw [r2] at y; cases y) fun y => by rw [r2] at y; cases y; simp at r3), r1, r2, r3, rest⟩
    · obtain ⟨bm, ob, b1, b2, b3, b4, b5, b6⟩ := bmod
      refine ⟨bm, ob, b1, b2, fun q => ?_, fun q => ?_, hidT_get b3 (plain b3 (fun _ _ y => by rw [b6] at y; cases y) fun y => by rw [b6] at y; cases y), b4, b5, b6⟩
      · obtain ⟨o, es, ep, e, dd, _⟩ := hns
        rw [q, e] at b3
        cases b3
        rw [dd] at b6
        cases b6
      · rw [q, tp] at b3
        cases b3
        cases b6
    · obtain ⟨o, es, ep, e, dd, _⟩ := hns
      rw [z, tp] at e
      cases e
      cases dd
  have e0 : Env0 P w K mg (hidT s1.heap H) callerA [] s1 H := ⟨rfl, md, fun b o e => of_hidT e, Nat.le_of_eq (hidT_size _ _), trivial, fun b hb => absurd (show b ∈ ([] : List Addr) from hb) (by simp), hok, .of_eq hg⟩
  refine codeAny_mono ((F _ kb (nsK hns) TB).run callerA [] s1 H ⟨[.ref a], []⟩ [.ref a] [.ref a] _ _ hr rfl e0 (hbind s1 (.ref a)) (.cons rfl .nil) (hsp H hT hS)) fun r s' h => ?_
  match r, h with
  | .error e, h => exact h.elim
  | .ok .next, h => exact h.elim
  | .ok .brk, h => exact h.elim
  | .ok .cont, h => exact h.elim
  | .ok (.ret u), ⟨v, H2, os, bare, un, hok2, r2, q⟩ =>
    obtain rfl : v = .bl true := q
    obtain rfl : u = Value.bool true := r2
    have stays : ∀ b o, isT b = false → s1.heap.get? b = some o → s'.heap.get? b = some o := fun b o nb e => by
      cases z : H b with
      | none => exact un.keep b o e z (by intro y; exact absurd (show b ∈ ([] : List Addr) from y) (by simp)) (by simp)
      | some u =>
        rcases inH b u z with ⟨y, _⟩ | ⟨rfl, _, rfl⟩
        · rw [nb] at y; cases y
        · have z2 := un.frzs b _ _ z
          obtain ⟨e2, _⟩ := hok2 b _ z2
          rw [ha] at e
          cases e
          exact e2
    have grown : ∀ b, isT b = true → ∃ more : Array Value, s'.heap.get? b = some { cls := .none, data := .fields more } := fun b y => by
      obtain ⟨p, hp, ep⟩ := isT_of y
      obtain ⟨more, z⟩ := un.tbls p.2 #[] (hT p hp)
      rw [← ep]
      exact ⟨_, hok2 p.2 _ z⟩
    refine ⟨rfl, ⟨fun b o e => ?_, fun b o e => ?_⟩, os, bare⟩
    · cases y : isT b with
      | false => exact .inl (stays b o y e)
      | true =>
        obtain ⟨p, hp, ep⟩ := isT_of y
        obtain ⟨more, hm⟩ := grown b y
        rw [tabAt y] at e
        cases e
        refine .inr (.inl ⟨?_, rfl, #[], more, rfl, by rw [Array.empty_append]; exact hm⟩)
        rw [← ep]
        exact ((heads p hp).tab (tabs p hp)).isCodeTable
    · cases y : isT b with
      | false => exact ⟨o, stays b o y e⟩
      | true =>
        obtain ⟨more, hm⟩ := grown b y
        exact ⟨_, hm⟩
/-- what is known of the law at the head's heap -/
def LawG (l : PySem.W.OpenLaw) (w : World) (K : PySem.W.Frag) (k n : Nat) (x : Str) (mg : Str → Option Value) (fa : Addr) (h : Heap) : Prop :=
  ∃ (fd : FuncData) (cs : List (Addr × Addr)) (sp : Sp), (∀ p ∈ cs, h.get? p.2 = some { cls := .none, data := .fields #[] }) ∧ (∀ p ∈ cs, K.lookup p.2 = none) ∧ (∀ p ∈ cs, PySem.W.CodeHd h p.1 p.2) ∧ (∀ (s : Shared) (u : Value), BindsTo s fd ⟨[u], []⟩ [(x, u)]) ∧
    (∀ (H : Hp) (a : Addr) (ns : List Int), ns.length ≤ n → (∀ z ∈ ns, Builtin.Int.intBits z ≤ 1048576) → (∀ p ∈ cs, H p.2 = some (.tbl #[])) → SqL K H a (ns.map V.int) → sp [.ref a] H (fun v _ => v = .bl true) fun _ _ _ => False) ∧
    ∀ base : Heap, K.In base → base.Ns mainGlobals mg → (∀ p ∈ cs, TabB base mg p.1 p.2) → FnG l.prog w K mg base CX0 k fa fd [x] sp
theorem walk_ofGT {l : PySem.W.OpenLaw} {n k : Nat} {q : Program} {loose : List Str} {XP : (Str → Option Value) → Heap → Prop} {YP : World → Heap → Prop} {d : DefRec} {K : Params → PySem.W.Frag} {x : Str}
    (hn : l.most = some n) (hn2 : n ≤ sizeLine) (hdf : d.params.defaults = []) (hr : Room k callerA) (hY : ∀ (w : World) (h : Heap), YP w h → (K w.params).In h)
    (F : ∀ (w : World) (mg : Str → Option Value) (fa : Addr) (h : Heap), YP w h → (K w.params).In h → h.Ns mainGlobals mg → mg d.name = some (.ref fa) → LawG l w (K w.params) k n x mg fa h) :
    PySem.W.WalkO q loose XP YP l.row.toRowW d [] (fun f vs => PySem.call f vs) := by
  refine Att.attach_callB hn hdf fun w s0 s1 mg mb fa o pm cd doc a vs ns G Y ho hd hcd hmg hobj hints hlen hbits hg => ?_
  have KX := hY w _ Y
  obtain ⟨fd, cs, sp, hT, nT, C, hb, hsp, hF⟩ := F w mg fa _ Y KX G.T.g hmg
  exact law_callGT KX G.T.g G.T.b G.T.builtins G.T.nolimit hg hT nT C G.T.bmain hobj hints (Nat.le_trans hlen hn2) hr hF hb fun H hH hS => hsp H a ns hlen hbits hH hS
end Cor
set_option Elab.async false
set_option linter.all false
set_option maxRecDepth 100000
set_option maxHeartbeats 1000000
namespace Law
open PySem PySem.Spec PyProof.Rows L2 Cor
structure GloF (mg : Str → Option Value) : Prop extends GloW mg where
  repr : mg "repr" = none
  list : mg "list" = none
abbrev sValue : Stmt := topS 39
abbrev sFound : Stmt := topS 42
abbrev sTextL : Stmt := topS 43
theorem scValue : FnScope ["_law_raw_here", "_law_words"] ["_law_raw_here", "_law_words"] (defScope sValue) := ⟨rfl, rfl, rfl, by decide +kernel, rfl, by decide +kernel, by decide +kernel⟩
theorem scFound : FnScope ["_law_tree_here"] ["_law_tree_here"] (defScope sFound) := ⟨rfl, rfl, rfl, by decide +kernel, rfl, by decide +kernel, by decide +kernel⟩
theorem scTextL : FnScope ["_law_tree_here", "_law_yes", "_law_no"] ["_law_tree_here"] (defScope sTextL) := ⟨rfl, rfl, rfl, by decide +kernel, rfl, by decide +kernel, by decide +kernel⟩
/-- the value under the words, all of which are known -/
def evW (wf : Int → Option Bool) (t : Tr) : Lf := t.ev (over wf fun _ => false)
theorem evW_eq {wf : Int → Option Bool} {r : Rho} : ∀ {t : Tr}, (∀ n ∈ t.nums, (wf n).isSome = true) → t.ev (over wf r) = evW wf t
  | .lf _, _ => rfl
  | .nd n y o, h => by
    have e1 := evW_eq (wf := wf) (r := r) (t := y) fun m hm => h m (List.mem_cons_of_mem _ (List.mem_append_left _ hm))
    have e2 := evW_eq (wf := wf) (r := r) (t := o) fun m hm => h m (List.mem_cons_of_mem _ (List.mem_append_right _ hm))
    have hn := h n List.mem_cons_self
    unfold evW at e1 e2 ⊢
    show (if over wf r n = true then y.ev _ else o.ev _) = (if over wf (fun _ => false) n = true then y.ev _ else o.ev _)
    rw [e1, e2]
    unfold over
    cases z : wf n with
    | none => rw [z] at hn; cases hn
    | some b => rfl
def spValue : Sp := fun vs H Q _ => ∃ (v : V) (d : Addr) (t : Tr) (wf : Int → Option Bool), vs = [v, .ref d] ∧ Tv H v t ∧ Wd H d wf ∧ (∀ n ∈ t.nums, (wf n).isSome = true) ∧ Q (Lf.v (evW wf t)) H
section
variable {P : Program} {w : World} {K : PySem.W.Frag} {mg : Str → Option Value} {base : Heap}
theorem ok_value {f : Addr} {fd : FuncData} (F : Fun K "_law_value" "_law_value" sValue f fd) (T : GloW mg) : FnOk P w K mg base CX0 1 f fd ["_law_raw_here", "_law_words"] spValue := by
  refine F.ok scValue (fun vs H Q E h => ?_) (fun cdv A outer s H vs Q E hr h => ?_)
  · obtain ⟨v, d, t, wf, rfl, _⟩ := h
    rfl
  · obtain ⟨v, d, t, wf, rfl, hv, hd, known, q⟩ := h
    have hu := hu_of hr
    refine ⟨_, (pss_cons (ps_while PassesOwn.never (pt_val (pe_callB (id := "isinstance") (show CallR _ (.builtin "isinstance") (rIsi K) from call_isi) (by rfl) T.isinstance (by decide +kernel) (pa_cons (pv 0) (pa_cons (pe_bltn (v := .ty "tuple") (by rfl) T.tuple (by decide +kernel) rfl) pa_nil)))) (pss_one (ps_set (i := 0) scValue.nd rfl (Or.inl rfl) (pe_ifExp (pt_val (pe_dget hu (pv 1) (pe_ix ix_tup (pv 0) pe_int (fun _ _ => rfl)) (fun _ _ => rfl))) (pe_ix ix_tup (pv 0) pe_int (fun _ _ => rfl)) (pe_ix ix_tup (pv 0) pe_int (fun _ _ => rfl))))))
      (pss_one (ps_ret (pv 0)))), ?_⟩
    refine ⟨fun m σ' H' => ∃ (v' : V) (t' : Tr), σ' = [some v', some (.ref d)] ∧ H' = H ∧ Tv H v' t' ∧ t'.dep = m ∧ evW wf t' = evW wf t ∧ (∀ n ∈ t'.nums, (wf n).isSome = true), ⟨t.dep, v, t, rfl, rfl, hv, rfl, rfl, known⟩, ?_⟩
    rintro m σ' H' ⟨v', t', rfl, rfl, hv', rfl, ev', kn'⟩
    obtain ⟨ty, y1, y2⟩ := tv_tuple (K := K) hv'
    refine ⟨_, rfl, _, _, _, _, _, rfl, .ty "tuple", y1, y2, _, rfl, ?_⟩
    cases t' with
    | lf l =>
      obtain rfl := hv'.lf_of
      refine ⟨_, rfl, ?_⟩
      rw [show Lf.v l = Lf.v (evW wf t) from by rw [← ev']; rfl]
      exact q
    | nd n ty to =>
      obtain ⟨a, y, o, rfl, h1, h2, h3⟩ := hv'.nd_of
      obtain ⟨kvs, hk, hw⟩ := hd
      have hn := kn' n List.mem_cons_self
      obtain ⟨b, hb⟩ := Option.isSome_iff_exists.mp hn
      have hg : DGet H' d (.int n) (some (.bl b)) := by
        have z := DGet.k (k := Sum.inl n) hk
        rw [hw n, hb] at z
        exact z
      refine ⟨fun σ2 H2 => ∃ (v2 : V) (t2 : Tr), σ2 = [some v2, some (.ref d)] ∧ H2 = H' ∧ Tv H' v2 t2 ∧ t2.dep < (Tr.nd n ty to).dep ∧ evW wf t2 = evW wf t ∧ (∀ n ∈ t2.nums, (wf n).isSome = true), fun σ2 H2 ⟨v2, t2, e1, e2, e3, e4, e5, e6⟩ => ⟨_, e4, v2, t2, e1, e2, e3, rfl, e5, e6⟩, ?_⟩
      refine ⟨_, rfl, _, rfl, a, _, _, _, rfl, rfl, SqT.of h1, rfl, d, _, rfl, hg, _, rfl, ?_⟩
      have hdep : (Tr.nd n ty to).dep = max ty.dep to.dep + 1 := rfl
      have evn : evW wf (Tr.nd n ty to) = if b = true then evW wf ty else evW wf to := by
        unfold evW
        show (if over wf (fun _ => false) n = true then _ else _) = _
        rw [show over wf (fun _ => false) n = b by unfold over; rw [hb]; rfl]
      cases b with
      | true =>
        refine ⟨_, rfl, a, _, _, _, rfl, rfl, SqT.of h1, rfl, y, ty, rfl, rfl, h2, by omega, ?_, fun m hm => kn' m (List.mem_cons_of_mem _ (List.mem_append_left _ hm))⟩
        rw [← ev', evn]; rfl
      | false =>
        refine ⟨_, rfl, a, _, _, _, rfl, rfl, SqT.of h1, rfl, o, to, rfl, rfl, h3, by omega, ?_, fun m hm => kn' m (List.mem_cons_of_mem _ (List.mem_append_right _ hm))⟩
        rw [← ev', evn]; rfl
theorem ok_textL {f : Addr} {fd : FuncData} (F : Fun K "_law_text" "_law_text" sTextL f fd) (T : GloW mg) (hm : mg "_law_text" = some (.ref f)) :
    ∀ m, FnOk P w K mg base CX0 (1 + m) f fd ["_law_tree_here"] (spText m) := by
  intro m
  induction m with
  | zero =>
    refine F.ok scTextL (k := 0) (fun vs H Q E h => ?_) (fun cdv A outer s H vs Q E hr h => ?_)
    · obtain ⟨v, t, rfl, _⟩ := h
      rfl
    · obtain ⟨v, t, rfl, _, hl, _⟩ := h
      omega
  | succ m IH =>
    have ih : Df P w K mg base "_law_text" (1 + m) ["_law_tree_here"] (spText m) := ⟨f, fd, IH, hm, F.kp, F.binds fun _ _ _ _ _ _ us hl => match us, hl with | [_], _ => rfl⟩
    refine F.ok scTextL (k := 1 + m) (fun vs H Q E h => ?_) (fun cdv A outer s H vs Q E hr h => ?_)
    · obtain ⟨v, t, rfl, _⟩ := h
      rfl
    · obtain ⟨v, t, rfl, hv, hl, h12, sm, q⟩ := h
      refine ⟨_, (pss_cons (ps_if (pt_val (pe_callB (id := "isinstance") (show CallR _ (.builtin "isinstance") (rIsi K) from call_isi) (by rfl) T.isinstance (by decide +kernel) (pa_cons (pv 0) (pa_cons (pe_bltn (v := .ty "bool") (by rfl) T.bool (by decide +kernel) rfl) pa_nil)))) (pss_one (ps_ret (pe_ifExp (pt_val (pv 0)) pe_str pe_str))) pss_nil)
      (pss_cons (ps_if (pt_not (pt_val (pe_callB (id := "isinstance") (show CallR _ (.builtin "isinstance") (rIsi K) from call_isi) (by rfl) T.isinstance (by decide +kernel) (pa_cons (pv 0) (pa_cons (pe_bltn (v := .ty "tuple") (by rfl) T.tuple (by decide +kernel) rfl) pa_nil))))) (pss_one (ps_ret (pe_callTy call_str_int (by rfl) T.str (by decide +kernel) (pa_cons (pv 0) pa_nil)))) pss_nil)
      (pss_cons (ps_par (i := 1) (j := 2) (by rfl) scTextL.nd rfl rfl (by decide) rfl rfl (pa_cons (pe_df (E := E0) ih hr (by rfl) (pa_cons (pe_ix ix_tup (pv 0) pe_int (fun _ _ => rfl)) pa_nil)) (pa_cons (pe_df (E := E0) ih hr (by rfl) (pa_cons (pe_ix ix_tup (pv 0) pe_int (fun _ _ => rfl)) pa_nil)) pa_nil)) (by rfl))
      (pss_one (ps_ret (pe_op op_add_str (pe_op op_add_str (pe_op op_add_str (pe_op op_add_str (pe_op op_add_str (pe_op op_add_str pe_str (pe_callTy call_str_int (by rfl) T.str (by decide +kernel) (pa_cons (pe_ix ix_tup (pv 0) pe_int (fun _ _ => rfl)) pa_nil))) pe_str) (pv 1)) pe_str) (pv 2)) pe_str)))))), ?_⟩
      cases t with
      | lf l =>
        obtain rfl := hv.lf_of
        cases l with
        | i n =>
          refine ⟨_, rfl, _, _, _, _, _, rfl, .ty "bool", .base (.int n), kit_ty (r := false) (by decide +kernel), _, rfl, ?_⟩
          exact ⟨_, rfl, _, _, _, _, _, rfl, .ty "tuple", .base (.int n), kit_ty (r := false) (by decide +kernel), _, rfl, _, rfl, _, rfl, sm, q⟩
        | b n =>
          refine ⟨_, rfl, _, _, _, _, _, rfl, .ty "bool", .base (.bl n), kit_ty (r := true) (by decide +kernel), _, rfl, _, rfl, _, rfl, ?_⟩
          cases n with
          | true => exact q
          | false => exact q
      | nd n ty to =>
        have fit := txt_fits sm h12
        obtain ⟨a, y, o, rfl, h1, h2, h3⟩ := hv.nd_of
        have hl : max ty.dep to.dep + 1 < m + 1 := hl
        have h12 : max ty.dep to.dep + 1 ≤ 12 := h12
        obtain ⟨sn, sy, so⟩ := sm
        refine ⟨_, rfl, _, _, _, _, _, rfl, .ty "bool", .base (.tup h1), kit_ty (r := false) (by decide +kernel), _, rfl, ?_⟩
        refine ⟨_, rfl, _, _, _, _, _, rfl, .ty "tuple", .base (.tup h1), kit_ty (r := true) (by decide +kernel), _, rfl, ?_⟩
        refine ⟨_, rfl, a, _, _, _, rfl, rfl, SqT.of h1, rfl, y, ty, rfl, h2, by omega, by omega, sy, ?_⟩
        refine ⟨_, rfl, a, _, _, _, rfl, rfl, SqT.of h1, rfl, o, to, rfl, h3, by omega, by omega, so, _, _, rfl, ?_⟩
        have all : (Str.empty ++ "(" ++ Str.ofString (toString n) ++ " ? " ++ txt ty ++ " : " ++ txt to ++ ")" : Str).length ≤ sizeLine := fit
        rw [Str.empty_append] at all
        have qq : Q (.str ("(" ++ Str.ofString (toString n) ++ " ? " ++ txt ty ++ " : " ++ txt to ++ ")")) H := by
          have z : Q (.str (Str.empty ++ "(" ++ Str.ofString (toString n) ++ " ? " ++ txt ty ++ " : " ++ txt to ++ ")")) H := q
          rw [Str.empty_append] at z
          exact z
        have pre : ∀ {a b : Str}, (a ++ b).length ≤ sizeLine → a.length ≤ sizeLine := fun {a b} z => by rw [Str.length_append] at z; omega
        have a6 := pre all
        have a5 := pre a6
        have a4 := pre a5
        have a3 := pre a4
        have a2 := pre a3
        have lng : ∀ {a b : Str}, (a ++ b).length ≤ sizeLine → a.length + b.length ≤ sizeLine := fun {a b} z => by rw [Str.length_append] at z; exact z
        refine ⟨_, rfl, a, _, _, _, rfl, rfl, SqT.of h1, rfl, _, rfl, sn, _, _, rfl, rfl, lng a2, _, _, rfl, rfl, lng a3, _, rfl, _, _, rfl, rfl, lng a4, _, _, rfl, rfl, lng a5, _, rfl, _, _, rfl, rfl, lng a6, _, _, rfl, rfl, lng all, qq⟩
end
end Law
set_option Elab.async false
set_option linter.all false
set_option maxRecDepth 100000
set_option maxHeartbeats 1000000
namespace Law
open PySem PySem.Spec PyProof.Rows L2 Cor
abbrev sTree : Stmt := topS 40
theorem scTree : FnScope ["_law_numbers_here", "_law_words", "_law_ask", "_law_held", "_law_failed", "_law_yes", "_law_no"] ["_law_numbers_here", "_law_words", "_law_ask"] (defScope sTree) := ⟨rfl, rfl, rfl, by decide +kernel, rfl, by decide +kernel, by decide +kernel⟩
theorem atI_head {n : Int} {ns : List Int} : atI ((n :: ns).map V.int) 0 = some (V.int n) := atI_ints (ns := n :: ns) (k := 0) (by show (0 : Int) < ((ns.length + 1 : Nat) : Int); omega) (by decide)
theorem cut_tail {n : Int} {ns : List Int} : cutV ((n :: ns).map V.int) (some 1) none = ns.map V.int := by
  unfold cutV
  rw [show HT.sIx ((n :: ns).map V.int).length 0 (some 1) = 1 from by
    rw [show (some (1 : Int)) = some ((1 : Nat) : Int) from rfl, HT.sIx_nat, List.length_map, List.length_cons]
    omega, HT.sIx_none]
  simp only [List.map_cons, List.drop_succ_cons, List.drop_zero, List.length_cons, Nat.add_sub_cancel]
  exact List.take_of_length_le (Nat.le_refl _)
/-- the one form of a function of words, which the lambda at f tells -/
def spTree (P : Program) (w : World) (K : PySem.W.Frag) (mg : Str → Option Value) (base : Heap) (m : Nat) : Sp := fun vs H Q _ => ∃ (a d f : Addr) (ns : List Int) (ws : List (Int × Bool)) (F : NdefX.NF) (b : Expr) (spL : Sp) (val : Rho → Lf) (k : Bool) (B : Nat),
  vs = [.ref a, .ref d, .ref f] ∧ H a = some (.lst (ns.map V.int)) ∧ ns.length < m ∧ ns.length ≤ 12 ∧ Asc ns ∧ (∀ n ∈ ns, n.natAbs < 2 ^ 1900) ∧ 0 < B ∧ B ≤ 1900 ∧ Wl H d ws ∧ ws.length + ns.length ≤ 60 ∧ (∀ n ∈ ns, n ∉ ws.map (·.1)) ∧ H f = some (LamO f F b) ∧ FnR P w K mg base CX0 5 f spL ∧
  (∀ d' more H', Same H H' → Wl H' d' (ws ++ more) → more.map (·.1) = ns → ∃ l, Lg k B l ∧ (∀ r, val (over (lookW (ws ++ more)) r) = l) ∧ ∀ Q' : VK, (∀ H'', Same H' H'' → Q' (Lf.v l) H'') → spL [.ref d'] H' Q' E0) ∧
  ∀ v H' t, Same H H' → Tv H' v t → Cn (Lg k B) ns t → (∀ r, t.ev r = val (over (lookW ws) r)) → Q v H'
theorem over_put {ws : List (Int × Bool)} {n : Int} {r : Rho} (h : n ∉ ws.map (·.1)) : over (lookW (ws ++ [(n, r n)])) r = over (lookW ws) r := by
  funext m
  unfold over
  rw [lookW_append (kv := (n, r n)) h]
  by_cases e : m = n
  · rw [if_pos e]
    have z : lookW ws m = none := by
      unfold lookW
      rw [List.lookup_eq_none_iff]
      intro p hp
      rw [bne_iff_ne, e]
      exact fun z => h (List.mem_map.mpr ⟨p, hp, z.symm⟩)
    rw [z, e]
    rfl
  · rw [if_neg e]
section
variable {P : Program} {w : World} {K : PySem.W.Frag} {mg : Str → Option Value} {base : Heap}
theorem ok_tree {f : Addr} {fd : FuncData} (Fn : Fun K "_law_tree" "_law_tree" sTree f fd) (T : GloF mg) (hm : mg "_law_tree" = some (.ref f)) :
    ∀ m, FnG P w K mg base CX0 (6 + m) f fd ["_law_numbers_here", "_law_words", "_law_ask"] (spTree P w K mg base m) := by
  intro m
  induction m with
  | zero =>
    refine okG Fn scTree (k := 5) (fun vs H Q E h => ?_) (fun cdv A outer s H vs Q E hr gd h => ?_)
    · obtain ⟨a, d, f, ns, ws, F, b, spL, val, k, B, rfl, _⟩ := h
      rfl
    · obtain ⟨a, d, f, ns, ws, F, b, spL, val, k, B, rfl, _, hl, _⟩ := h
      omega
  | succ m IH =>
    have ih : DfG P w K mg base "_law_tree" (6 + m) ["_law_numbers_here", "_law_words", "_law_ask"] (spTree P w K mg base m) := ⟨f, fd, IH, hm, Fn.kp, Fn.binds fun _ _ _ _ _ _ us hl => match us, hl with | [_, _, _], _ => rfl⟩
    refine okG Fn scTree (k := 6 + m) (fun vs H Q E h => ?_) (fun cdv A outer s H vs Q E hr gd h => ?_)
    · obtain ⟨a, d, f, ns, ws, F, b, spL, val, k, B, rfl, _⟩ := h
      rfl
    · obtain ⟨a, d, f, ns, ws, F, b, spL, val, k, B, rfl, ha, hl, h12, asc, small, B0, B1, hd, l60, fresh, hf, R, ask, q⟩ := h
      refine ⟨_, (pss_cons (ps_if (pt_cmpR op_eq (pe_callB call_len_seq (by rfl) T.len PySem.boot_len (pa_cons (pv 0) pa_nil)) pe_int (nomark _)) (pss_one (ps_ret (pe_ask (k := 5) (i := 2) (hr.mono (by omega)) rfl (.inl rfl) (pa_cons (pv 1) pa_nil)))) pss_nil)
      (pss_cons (ps_set (i := 3) scTree.nd rfl (Or.inl rfl) (pe_callTy (call_dictP rfl) (by rfl) T.dict (by decide +kernel) (pa_cons (pe_op op_cat (LiI.pe_listItems rfl (pv 1) (by rfl) T.list (by decide +kernel)) (pe_lst (pa_cons (pe_tup (pa_cons (pe_ix ix_list (pv 0) pe_int (fun _ _ => rfl)) (pa_cons pe_bl pa_nil))) pa_nil))) pa_nil)))
      (pss_cons (ps_set (i := 4) scTree.nd rfl (Or.inl rfl) (pe_callTy (call_dictP rfl) (by rfl) T.dict (by decide +kernel) (pa_cons (pe_op op_cat (LiI.pe_listItems rfl (pv 1) (by rfl) T.list (by decide +kernel)) (pe_lst (pa_cons (pe_tup (pa_cons (pe_ix ix_list (pv 0) pe_int (fun _ _ => rfl)) (pa_cons pe_bl pa_nil))) pa_nil))) pa_nil)))
      (pss_cons (ps_par (i := 5) (j := 6) (by rfl) scTree.nd rfl rfl (by decide) rfl rfl (pa_cons (pe_dfG (E := E0) ih hr gd (by rfl) (pa_cons (pe_slice sl_list (pv 0) (po_some pe_int) po_none) (pa_cons (pv 3) (pa_cons (pv 2) pa_nil)))) (pa_cons (pe_dfG (E := E0) ih hr gd (by rfl) (pa_cons (pe_slice sl_list (pv 0) (po_some pe_int) po_none) (pa_cons (pv 4) (pa_cons (pv 2) pa_nil)))) pa_nil)) (by rfl))
      (pss_one (ps_ret (pe_ifExp (pt_cmpR op_eq (pe_callB (call_reprD gd hr.units) (by rfl) T.repr (by decide +kernel) (pa_cons (pv 5) pa_nil)) (pe_callB (call_reprD gd hr.units) (by rfl) T.repr (by decide +kernel) (pa_cons (pv 6) pa_nil)) (nomark _)) (pv 5) (pe_tup (pa_cons (pe_ix ix_list (pv 0) pe_int (fun _ _ => rfl)) (pa_cons (pv 5) (pa_cons (pv 6) pa_nil))))))))))), ?_⟩
      refine ⟨_, rfl, a, _, rfl, .inl (SqL.of ha), rfl, _, rfl, ?_⟩
      cases ns with
      | nil =>
        refine ite2 (fun hb => ?_) (fun hb => absurd (decide_eq_true rfl) hb)
        refine ⟨f, F, b, spL, rfl, hf, R, _, rfl, hf, ?_⟩
        obtain ⟨l, gl, vl, run⟩ := ask d [] H (fun _ _ z => z) (by rw [List.append_nil]; exact hd) rfl
        refine run _ fun H2 s2 => q _ H2 (.lf l) s2 (.lf l) (.lf gl) fun r => ?_
        rw [List.append_nil] at vl
        exact (vl r).symm
      | cons n ns =>
        refine ite2 (fun hb => absurd (of_decide_eq_true hb) (fun z => ?_)) (fun hb => ?_)
        · have z := V.int.inj z
          rw [List.length_map] at z
          have z : ((ns.length + 1 : Nat) : Int) = 0 := z
          omega
        have fn : n ∉ ws.map (·.1) := fresh n List.mem_cons_self
        obtain ⟨n1, asc'⟩ := List.pairwise_cons.mp asc
        have l1 : ns.length + 1 < m + 1 := hl
        have l2 : ns.length + 1 ≤ 12 := h12
        have l3 : ws.length + (ns.length + 1) ≤ 60 := l60
        have nodup : ∀ bb : Bool, ((ws ++ [(n, bb)]).map (·.1)).Nodup := fun bb => by
          rw [List.map_append]
          exact List.nodup_append.mpr ⟨hd.2.1, by simp, fun x hx y hy e => by
            rw [List.mem_singleton.mp (show y ∈ [n] from hy)] at e
            rw [e] at hx
            exact fn hx⟩
        have mk : ∀ (bb : Bool) {H1 : Hp} {p : Addr}, H1 p = some (.dK (mergeK [] ((ws ++ [(n, bb)]).map kvW))) → Wl H1 p (ws ++ [(n, bb)]) := fun bb {H1 p} e => by
          rw [show (mergeK [] ((ws ++ [(n, bb)]).map kvW)) = (ws ++ [(n, bb)]).map kvW from merge_fresh (ws ++ [(n, bb)]) [] (nodup bb)] at e
          exact ⟨e, nodup bb, by rw [List.length_append]; show ws.length + 1 ≤ 60; omega⟩
        -- the dict of the words with n held
        refine ⟨_, rfl, d, _, rfl, hd.1, fun H1 p1 ts1 sm1 np1 nts1 pn1 ep1 pr1 => ?_⟩
        have pw1 := Prw.of pr1
        refine ⟨_, rfl, a, _, _, _, rfl, rfl, SqL.of (sm1 _ _ ha), atI_head, (by show 2 ≤ sizeLine; decide), fun t2 nt2 => ?_⟩
        have s2 := same_upd (o := .tup [.int n, .bl true]) nt2
        refine ⟨(by show 1 ≤ sizeLine; decide), fun l2' nl2 => ?_⟩
        have s3 := same_upd (o := .lst [.ref t2]) nl2
        have el1 := pw1.len
        refine ⟨p1, l2', _, _, rfl, rfl, s3 _ _ (s2 _ _ ep1), upd_same, ?_, fun p3 np3 => ?_⟩
        · rw [List.length_map, el1]; exact Nat.le_trans (by show ws.length + 1 ≤ 60; omega) (by decide)
        have s4 := same_upd (o := .lst (ts1.map V.ref ++ [.ref t2])) np3
        have s14 : Same H1 (upd (upd (upd H1 t2 (.tup [.int n, .bl true])) l2' (.lst [.ref t2])) p3 (.lst (ts1.map V.ref ++ [.ref t2]))) := fun b o z => s4 b o (s3 b o (s2 b o z))
        have t2at := s4 _ _ (s3 _ _ (show (upd H1 t2 (.tup [.int n, .bl true])) t2 = _ from upd_same))
        refine ⟨p3, ts1 ++ [t2], (ws ++ [(n, true)]).map kvW, rfl, SqL.of (by rw [List.map_append]; exact upd_same), Prw.kv (Prw.snoc (kv := (n, true)) t2at (pw1.same s14)), fun d1 nd1 => ?_⟩
        have s5 := same_upd (o := .dK (mergeK [] ((ws ++ [(n, true)]).map kvW))) nd1
        have wd1 := mk true (show (upd (upd (upd (upd H1 t2 (.tup [.int n, .bl true])) l2' (.lst [.ref t2])) p3 (.lst (ts1.map V.ref ++ [.ref t2]))) d1 (.dK (mergeK [] ((ws ++ [(n, true)]).map kvW)))) d1 = _ from upd_same)
        have sA : Same H (upd (upd (upd (upd H1 t2 (.tup [.int n, .bl true])) l2' (.lst [.ref t2])) p3 (.lst (ts1.map V.ref ++ [.ref t2]))) d1 (.dK (mergeK [] ((ws ++ [(n, true)]).map kvW)))) := fun b o z => s5 b o (s14 b o (sm1 b o z))
        generalize (upd (upd (upd (upd H1 t2 (.tup [.int n, .bl true])) l2' (.lst [.ref t2])) p3 (.lst (ts1.map V.ref ++ [.ref t2]))) d1 (.dK (mergeK [] ((ws ++ [(n, true)]).map kvW)))) = HA at wd1 sA
        clear s5 s14 s4 s3 s2 pw1 pr1 t2at
        -- .. with n failed
        refine ⟨_, rfl, d, _, rfl, (hd.same sA).1, fun H6 p6 ts6 sm6 np6 nts6 pn6 ep6 pr6 => ?_⟩
        have pw6 := Prw.of pr6
        refine ⟨_, rfl, a, _, _, _, rfl, rfl, SqL.of (sm6 _ _ (sA _ _ ha)), atI_head, (by show 2 ≤ sizeLine; decide), fun t7 nt7 => ?_⟩
        have s7 := same_upd (o := .tup [.int n, .bl false]) nt7
        refine ⟨(by show 1 ≤ sizeLine; decide), fun l8 nl8 => ?_⟩
        have s8 := same_upd (o := .lst [.ref t7]) nl8
        have el6 := pw6.len
        refine ⟨p6, l8, _, _, rfl, rfl, s8 _ _ (s7 _ _ ep6), upd_same, ?_, fun p9 np9 => ?_⟩
        · rw [List.length_map, el6]; exact Nat.le_trans (by show ws.length + 1 ≤ 60; omega) (by decide)
        have s9 := same_upd (o := .lst (ts6.map V.ref ++ [.ref t7])) np9
        have s69 : Same H6 (upd (upd (upd H6 t7 (.tup [.int n, .bl false])) l8 (.lst [.ref t7])) p9 (.lst (ts6.map V.ref ++ [.ref t7]))) := fun b o z => s9 b o (s8 b o (s7 b o z))
        have t7at := s9 _ _ (s8 _ _ (show (upd H6 t7 (.tup [.int n, .bl false])) t7 = _ from upd_same))
        refine ⟨p9, ts6 ++ [t7], (ws ++ [(n, false)]).map kvW, rfl, SqL.of (by rw [List.map_append]; exact upd_same), Prw.kv (Prw.snoc (kv := (n, false)) t7at (pw6.same s69)), fun d2 nd2 => ?_⟩
        have s10 := same_upd (o := .dK (mergeK [] ((ws ++ [(n, false)]).map kvW))) nd2
        have wd2 := mk false (show (upd (upd (upd (upd H6 t7 (.tup [.int n, .bl false])) l8 (.lst [.ref t7])) p9 (.lst (ts6.map V.ref ++ [.ref t7]))) d2 (.dK (mergeK [] ((ws ++ [(n, false)]).map kvW)))) d2 = _ from upd_same)
        have sAB : Same HA (upd (upd (upd (upd H6 t7 (.tup [.int n, .bl false])) l8 (.lst [.ref t7])) p9 (.lst (ts6.map V.ref ++ [.ref t7]))) d2 (.dK (mergeK [] ((ws ++ [(n, false)]).map kvW)))) := fun b o z => s10 b o (s69 b o (sm6 b o z))
        generalize (upd (upd (upd (upd H6 t7 (.tup [.int n, .bl false])) l8 (.lst [.ref t7])) p9 (.lst (ts6.map V.ref ++ [.ref t7]))) d2 (.dK (mergeK [] ((ws ++ [(n, false)]).map kvW)))) = HB at wd2 sAB
        clear s10 s69 s9 s8 s7 pw6 pr6 t7at
        have sB : Same H HB := fun b o z => sAB b o (sA b o z)
        have fresh' : ∀ bb : Bool, ∀ x ∈ ns, x ∉ (ws ++ [(n, bb)]).map (·.1) := fun bb x hx z => by
          rw [List.map_append, List.mem_append] at z
          rcases z with z | z
          · exact fresh x (List.mem_cons_of_mem _ hx) z
          · have := n1 x hx
            rw [List.mem_singleton.mp (show x ∈ [n] from z)] at this
            omega
        have small' : ∀ x ∈ ns, x.natAbs < 2 ^ 1900 := fun x hx => small x (List.mem_cons_of_mem _ hx)
        have askB : ∀ (bb : Bool) (HX : Hp), Same H HX → ∀ d' more H', Same HX H' → Wl H' d' ((ws ++ [(n, bb)]) ++ more) → more.map (·.1) = ns → ∃ l, Lg k B l ∧ (∀ r, val (over (lookW ((ws ++ [(n, bb)]) ++ more)) r) = l) ∧ ∀ Q' : VK, (∀ H'', Same H' H'' → Q' (Lf.v l) H'') → spL [.ref d'] H' Q' E0 := fun bb HX sX d' more H' s' hw hm => by
          rw [List.append_assoc] at hw
          obtain ⟨l, e1, e2, e3⟩ := ask d' ((n, bb) :: more) H' (fun b o z => s' b o (sX b o z)) hw (by rw [List.map_cons, hm])
          exact ⟨l, e1, fun r => by rw [List.append_assoc]; exact e2 r, e3⟩
        have len' : ∀ bb : Bool, (ws ++ [(n, bb)]).length + ns.length ≤ 60 := fun bb => by rw [List.length_append]; show ws.length + 1 + ns.length ≤ 60; omega
        -- the two forms
        refine ⟨_, rfl, _, rfl, a, _, rfl, SqL.of (sB _ _ ha), fun p10 np10 => ?_⟩
        rw [cut_tail]
        have s11 := same_upd (o := .lst (ns.map V.int)) np10
        have sC : Same H (upd HB p10 (.lst (ns.map V.int))) := fun b o z => s11 b o (sB b o z)
        refine ⟨_, rfl, _, rfl, p10, d1, f, ns, ws ++ [(n, true)], F, b, spL, val, k, B, rfl, upd_same, by omega, by omega, asc', small', B0, B1, (wd1.same sAB).same s11, len' true, fresh' true, sC _ _ hf, R, askB true _ sC, fun v1 H12 t1 s12 hv1 c1 e1 => ?_⟩
        have sD : Same H H12 := fun b o z => s12 b o (sC b o z)
        refine ⟨_, rfl, _, rfl, a, _, rfl, SqL.of (sD _ _ ha), fun p13 np13 => ?_⟩
        rw [cut_tail]
        have s13 := same_upd (o := .lst (ns.map V.int)) np13
        have sE : Same H (upd H12 p13 (.lst (ns.map V.int))) := fun b o z => s13 b o (sD b o z)
        refine ⟨_, rfl, _, rfl, p13, d2, f, ns, ws ++ [(n, false)], F, b, spL, val, k, B, rfl, upd_same, by omega, by omega, asc', small', B0, B1, ((wd2.same s11).same s12).same s13, len' false, fresh' false, sE _ _ hf, R, askB false _ sE, fun v2 H14 t2 s14 hv2 c2 e2 => ?_⟩
        have sF : Same H H14 := fun b o z => s14 b o (sE b o z)
        have hv1' : Tv H14 v1 t1 := (hv1.same s13).same s14
        refine ⟨_, _, rfl, ?_⟩
        have sm1 := Cn.sml B0 (by omega) small' c1
        have sm2 := Cn.sml B0 (by omega) small' c2
        have dp1 := c1.dep_le
        have dp2 := c2.dep_le
        have evs : ∀ r : Rho, (mkNd n t1 t2).ev r = val (over (lookW ws) r) := fun r => by
          rw [mkNd_ev, e1, e2]
          have z := over_put (ws := ws) (n := n) (r := r) fn
          cases hrn : r n with
          | true => rw [hrn] at z; rw [if_pos rfl, z]
          | false => rw [hrn] at z; rw [if_neg Bool.false_ne_true, z]
        have cns : Cn (Lg k B) (n :: ns) (mkNd n t1 t2) := mkNd_cn c1 c2
        refine ⟨_, rfl, v1, t1.d, rfl, hv1'.dp, sm1.show, t1.d_noDict, sm1.fits (by omega), (by rw [t1.d_depth]; omega), ?_⟩
        refine ⟨_, rfl, v2, t2.d, rfl, hv2.dp, sm2.show, t2.d_noDict, sm2.fits (by omega), (by rw [t2.d_depth]; omega), ?_⟩
        refine ⟨rfl, _, rfl, ?_⟩
        rw [shown_dec]
        refine ite2 (fun hb => ?_) (fun hb => ?_)
        · have e := of_decide_eq_true hb
          refine ⟨_, rfl, q _ H14 _ sF ?_ cns evs⟩
          unfold mkNd
          rw [if_pos e]
          exact hv1'
        · have e : ¬ t1 = t2 := fun z => hb (decide_eq_true z)
          refine ⟨_, rfl, a, _, _, _, rfl, rfl, SqL.of (sF _ _ ha), atI_head, _, rfl, _, rfl, (by show 3 ≤ sizeLine; decide), fun p15 np15 => ?_⟩
          have s15 := same_upd (o := .tup [.int n, v1, v2]) np15
          refine q _ _ _ (fun b o z => s15 b o (sF b o z)) ?_ cns evs
          unfold mkNd
          rw [if_neg e]
          exact .nd upd_same (hv1'.same s15) (hv2.same s15)
end
end Law
set_option Elab.async false
set_option linter.all false
set_option maxRecDepth 100000
set_option maxHeartbeats 2000000
namespace Cor
open PySem PySem.Spec PyProof.Rows L2 LamX NdefX
/-- x(e1, e2, lambda ..): the lambda is made, its captured cells are lent to the call -/
def tLendLam (T : List (Addr × Str)) (fr : List Str) (js : List Nat) (sp : Sp) (body : Expr) (mk : Addr → NF) (t1 t2 : TE) : TE := fun σ H Q => t1 σ H fun v1 H1 => t2 σ H1 fun v2 H2 => Tabs T H2 ∧ ∀ (f c' : Addr) (H3 : Hp), ExtN H2 H3 → Tabs T H3 → H2 f = none → H3 f = some (LamO f (mk c') body) → H3 c' = some (CodeO c' (mk c').qual) →
  (∀ x y a, (mk c').cl.lookup x = some a → (mk c').cl.lookup y = some a → x = y) → (∀ y a, (mk c').cl.lookup y = some a → (y, NameKind.free) ∈ (mk c').scope.names) →
  ∀ Hl : Hp, Same H3 Hl → (∀ (i : Nat) (y : Str) (v : V), fr[i]? = some y → (js.map (slotAt σ))[i]? = some (some v) → ∃ a, (mk c').cl.lookup y = some a ∧ Lent Hl a v) →
    sp [v1, v2, .ref f] Hl (fun v H4 => Same Hl H4 ∧ ∀ H5, Same H3 H5 → Kx H4 H5 → Q v H5) E0
section
variable {X : Cx} {k : Nat} {x : Str} {p pos lpos : Pos} {e1 e2 : Expr} {t1 t2 : TE} {sp : Sp} {ps : List Str} {T : List (Addr × Str)} {c P : Addr} {params : Arguments} {body : Expr} {scope : Scope} {fr : List Str} {js : List Nat}
theorem pe_lendLam (D : DfG X.prog X.w X.K X.mg X.base x k ps sp) (hr : Room k X.A) (gd : X.A.guards = some []) (hg : Gl X x) (TB : TabB X.base X.mg c P) (hcode : X.env.code = .ref c) (hm : (P, X.env.qual ++ "<lambda>") ∈ T) (hu : ∀ p ∈ T, p.1 = P → p.2 = X.env.qual ++ "<lambda>")
    (hB : ndefB X.env.scope scope fr = true) (hjs : js.map (fun j => X.N[j]?) = fr.map some) (hfn : ∀ y ∈ fr, X.fn y = true) (nd : fr.Nodup) (h1 : PE X e1 t1) (h2 : PE X e2 t2) (hdef : defaultsOf params X.env = ([], []) := by rfl)
    (hdb : (x == ("__debug__" : Str)) = false := by decide) (st1 : starEach [e1, e2, .Lambda params body scope lpos] X.env = (false, eval e1 X.env) :: starEach [e2, .Lambda params body scope lpos] X.env := by rfl)
    (st2 : starEach [e2, .Lambda params body scope lpos] X.env = (false, eval e2 X.env) :: starEach [.Lambda params body scope lpos] X.env := by rfl) (st3 : starEach [.Lambda params body scope lpos] X.env = (false, eval (.Lambda params body scope lpos) X.env) :: starEach [] X.env := by rfl)
    (hpl : (backTo pos (starEach [e2, .Lambda params body scope lpos] X.env)).any (·.1) = false := by rfl) :
    PE X (.Call (.Name x p) [e1, e2, .Lambda params body scope lpos] [] pos) (tLendLam T fr js sp body (lamNF X params scope) t1 t2) := by
  have lam : PE X (.Lambda params body scope lpos) (tLamV T body (lamNF X params scope)) := pe_lamV TB hcode hm hu (ndef_free hB) hdef
  obtain ⟨f0, fd, F, m, kp, b⟩ := D
  refine ⟨fun pins s σ H Q I h => ?_⟩
  refine wpAny_Call_Name_kw (ld_glob I hg m ?_ hdb)
  have cps : ∀ Y : X.Ok, Caps X (cloFrom X.env.cells scope.names []) fr js := fun Y => Caps.made Y (ndef_free hB) (ndef_fr hB) hjs
  have ha := pa_cons h1.up (pa_cons h2.up (pa_cons lam.up pa_nil st3) st2) st1
  refine PySem.W.callWith_K (h₀ := X.base) I.ok.mod.kin kp (thn (ha.run pos pins s σ H (fun vs H3 => ∀ Hl : Hp, Same H3 Hl → (∀ (i : Nat) (y : Str) (v : V), fr[i]? = some y → (js.map (slotAt σ))[i]? = some (some v) → ∃ a, (cloFrom X.env.cells scope.names []).lookup y = some a ∧ Lent Hl a v) →
      sp vs Hl (fun v H4 => Same Hl H4 ∧ ∀ H5, Same H3 H5 → Kx H4 H5 → Q v H5) E0) I ?_) fun us s1 ⟨vs, H1, I1, r, q⟩ => ⟨I1.kIn, ?_⟩) st1 hpl
  · refine ⟨_, h, fun v1 H1 z1 => ⟨_, z1, fun v2 H2 z2 => ⟨fun v H3 => ∀ Hl : Hp, Same H3 Hl → (∀ (i : Nat) (y : Str) (v : V), fr[i]? = some y → (js.map (slotAt σ))[i]? = some (some v) → ∃ a, (cloFrom X.env.cells scope.names []).lookup y = some a ∧ Lent Hl a v) →
      sp [v1, v2, v] Hl (fun v H4 => Same Hl H4 ∧ ∀ H5, Same H3 H5 → Kx H4 H5 → Q v H5) E0, ⟨z2.1, fun f c' H3 eN T3 f0 hf hc inj dom => z2.2 f c' H3 eN T3 f0 hf hc inj dom⟩, fun v H3 z => z⟩⟩⟩
  · exact run_lend F hr gd b (cps I1.ok) hfn nd I1 r q
end
/-- all but things known by what is true of them, and tables -/
def Kz (H H' : Hp) : Prop := ∀ b o, (∀ φ, o ≠ .ext φ) → (∀ ps, o ≠ .tbl ps) → H b = some o → H' b = some o
theorem Kx.kz {H H' : Hp} (h : Kx H H') : Kz H H' := fun b o n _ e => h b o n e
theorem _root_.LamX.ExtN.kz {H H' : Hp} (h : ExtN H H') : Kz H H' := fun b o _ n e => h b o e n
theorem _root_.L2.Same.kz {H H' : Hp} (h : Same H H') : Kz H H' := fun b o _ _ e => h b o e
theorem Kz.trans {H H1 H2 : Hp} (a : Kz H H1) (b : Kz H1 H2) : Kz H H2 := fun c o n m e => b c o n m (a c o n m e)
theorem Kz.refl {H : Hp} : Kz H H := fun _ _ _ _ e => e
theorem Tv.kz {H H' : Hp} (k : Kz H H') : ∀ {t : Tr} {v : V}, Tv H v t → Tv H' v t
  | .lf _, _, h => by rw [h.lf_of]; exact .lf _
  | .nd n ty to, _, h => by
    obtain ⟨a, y, o, rfl, h1, h2, h3⟩ := h.nd_of
    exact .nd (k _ _ (fun _ z => by cases z) (fun _ z => by cases z) h1) (Tv.kz k h2) (Tv.kz k h3)
theorem Tabs.same {T : List (Addr × Str)} {H H' : Hp} (t : Tabs T H) (s : Same H H') : Tabs T H' := t.ext s
def fnCode (K : PySem.W.Frag) (f : Addr) : Option Value := match K.lookup f with
  | some ⟨_, _, .func fd, _⟩ => some fd.code
  | _ => none
section
variable {P : Program} {w : World} {K : PySem.W.Frag} {mg : Str → Option Value} {base : Heap}
theorem okGC {x qual : Str} {st : Stmt} {f c : Addr} {fd : FuncData} {N ps : List Str} {k : Nat} {sp : Sp} (F : Fun K x qual st f fd) (hc : fnCode K f = some (.ref c)) (S : FnScope N ps (defScope st)) (len : ∀ vs H Q E, sp vs H Q E → vs.length = ps.length)
    (hbody : ∀ (A : Around) (outer : List Env) (s : Shared) (H : Hp) (vs : List V) (Q : VK) (E : XK), Room k (A.deeper (envOfC qual (defScope st) s.heap.objs.size f (.ref c))) → A.guards = some [] → sp vs H Q E →
      ∃ t, PSs (cxOf CX0 P w K mg base N qual (defScope st) f (.ref c) A outer s H E).nox (defBody st) t ∧ t { nx := fun _ H' => Q .non H', rt := Q } (start N vs) H) : FnG P w K mg base CX0 (k + 1) f fd ps sp := by
  obtain ⟨oc, od, kV, doc, pm, an, cdv, ct, osl, rfl, lk, hcd⟩ := F.ex
  unfold fnCode at hc
  rw [lk] at hc
  obtain rfl : cdv = .ref c := Option.some.inj hc
  refine fn_ofG lk hcd S len fun A outer s H vs Q E hr gd hsp => ?_
  obtain ⟨t, h, q⟩ := hbody A outer s H vs Q E hr gd hsp
  exact ⟨t, h.nox, q⟩
end
end Cor
set_option Elab.async false
set_option linter.all false
set_option maxRecDepth 100000
set_option maxHeartbeats 1000000
namespace Law
open PySem PySem.Spec PyProof.Rows L2 Cor LamX NdefX
theorem Lent.same {H H' : Hp} {c : Addr} {v : V} (s : Same H H') (h : Lent H c v) : Lent H' c v := let ⟨o, e⟩ := h; ⟨o, s _ _ e⟩
section
variable {P : Program} {w : World} {K : PySem.W.Frag} {mg : Str → Option Value} {base : Heap}
/-- what _law_tree(numbers, words, lambda ..) asks: G, what the lambda's body needs of the heap; fv, what it tells -/
theorem rd_lend {T : List (Addr × Str)} {fr : List Str} {js : List Nat} {body : Expr} {mk : Addr → NF} {N : List Str} {σ : L2.St} {H : Hp} {Q : VK} {a d : Addr} {ns : List Int} {ws : List (Int × Bool)} {m : Nat} {k : Bool} {B : Nat} {val : Rho → Lf} (cvs : List V) (G : Hp → Prop) (fv : List (Int × Bool) → Lf)
    (S : ∀ c, NScope N ["_law_words"] fr (mk c).scope) (hb : ∀ (c : Addr) (pm ctv : Value) (us : List Value), us.length = 1 → bindArgs (PySem.W.kla_fn "<lambda>" (mk c).qual (mk c).params body (mk c).scope (mk c).cl pm (.ref (mk c).c) ctv) ⟨us, []⟩ = pure ((["_law_words"] : List Str).zip us))
    (hcv : js.map (slotAt σ) = cvs.map some) (lfr : cvs.length = fr.length) (hmk : ∀ c, (mk c).c = c) (ha : H a = some (.lst (ns.map V.int))) (hm : ns.length < m) (h12 : ns.length ≤ 12) (asc : Asc ns) (small : ∀ n ∈ ns, n.natAbs < 2 ^ 1900) (B0 : 0 < B) (B1 : B ≤ 1900)
    (hd : Wl H d ws) (l60 : ws.length + ns.length ≤ 60) (fresh : ∀ n ∈ ns, n ∉ ws.map (·.1)) (hT : Tabs T H) (gH : G H) (gK : ∀ H1 H2, Kz H1 H2 → G H1 → G H2)
    (fvg : ∀ more, more.map (·.1) = ns → Lg k B (fv more)) (fvv : ∀ more r, more.map (·.1) = ns → val (over (lookW (ws ++ more)) r) = fv more)
    (hbody : ∀ (f c : Addr) (A : Around) (outer : List Env) (s : Shared) (H0 : Hp) (d : Addr) (more : List (Int × Bool)) (Q0 : VK), Room 4 (A.deeper (envF (mk c) f s.heap.objs.size)) → Wl H0 d (ws ++ more) → more.map (·.1) = ns → G H0 → (∀ H2, Same H0 H2 → Q0 (Lf.v (fv more)) H2) →
      ∃ t, PE (ncx CX0 P w K mg base N (mk c) f A outer s H0 E0) body t ∧ t (startF N [.ref d] (cvs.map some)) H0 Q0)
    (q : ∀ v H5 t, ExtN H H5 → Tabs T H5 → Tv H5 v t → Cn (Lg k B) ns t → (∀ r, t.ev r = val (over (lookW ws) r)) → Q v H5) :
    Tabs T H ∧ ∀ (f c' : Addr) (H3 : Hp), ExtN H H3 → Tabs T H3 → H f = none → H3 f = some (LamO f (mk c') body) → H3 c' = some (CodeO c' (mk c').qual) →
      (∀ x y a, (mk c').cl.lookup x = some a → (mk c').cl.lookup y = some a → x = y) → (∀ y a, (mk c').cl.lookup y = some a → (y, NameKind.free) ∈ (mk c').scope.names) →
      ∀ Hl : Hp, Same H3 Hl → (∀ (i : Nat) (y : Str) (v : V), fr[i]? = some y → (js.map (slotAt σ))[i]? = some (some v) → ∃ a, (mk c').cl.lookup y = some a ∧ Lent Hl a v) →
        spTree P w K mg base m [.ref a, .ref d, .ref f] Hl (fun v H4 => Same Hl H4 ∧ ∀ H5, Same H3 H5 → Kx H4 H5 → Q v H5) E0 := by
  refine ⟨hT, fun f c' H3 eN T3 f0 hf hc inj dom Hl sl lent => ?_⟩
  have ha' := sl _ _ (eN _ _ ha (fun _ z => by cases z))
  have hd' : Wl Hl d ws := ⟨sl _ _ (eN _ _ hd.1 (fun _ z => by cases z)), hd.2⟩
  have gl : G Hl := gK _ _ (eN.kz.trans sl.kz) gH
  have R : FnR P w K mg base CX0 5 f (spLam ["_law_words"] fr (mk c') f body fun ws0 vs H0 Q0 => ∃ d more, vs = [.ref d] ∧ ws0 = cvs ∧ Wl H0 d (ws ++ more) ∧ more.map (·.1) = ns ∧ G H0 ∧ ∀ H2, Same H0 H2 → Q0 (Lf.v (fv more)) H2) := by
    refine lam_fnR (k := 4) (S c') (hb c') inj dom fun A outer s H0 vs ws0 Q0 hr z => ?_
    obtain ⟨d, more, rfl, rfl, hw, hmore, g, q0⟩ := z
    exact hbody f c' A outer s H0 d more Q0 hr hw hmore g q0
  refine ⟨a, d, f, ns, ws, mk c', body, _, val, k, B, rfl, ha', hm, h12, asc, small, B0, B1, hd', l60, fresh, sl _ _ hf, R, fun d' more H' s' hw hmore => ?_, fun v H' t s' hv ct et => ?_⟩
  · refine ⟨fv more, fvg more hmore, fun r => fvv more r hmore, fun Q' q' => ?_⟩
    refine ⟨rfl, s' _ _ (sl _ _ hf), by rw [hmk c']; exact s' _ _ (sl _ _ hc), cvs, lfr, fun i y hi => ?_, fun H0 kx => ⟨d', more, rfl, rfl, hw.kx kx, hmore, gK _ _ (s'.kz.trans kx.kz) gl, fun H2 s2 H9 sm9 _ => q' H9 (sm9 s2)⟩⟩
    have hlt : i < cvs.length := by rw [lfr]; exact (List.getElem?_eq_some_iff.mp hi).1
    obtain ⟨c, e1, e2⟩ := lent i y cvs[i] hi (by rw [hcv, List.getElem?_map, List.getElem?_eq_getElem hlt]; rfl)
    exact ⟨c, cvs[i], e1, List.getElem?_eq_getElem hlt, Lent.same s' e2⟩
  · refine ⟨s', fun H5 s5 kx => q v H5 t (fun b o z n => s5 b o (eN b o z n)) (Cor.Tabs.same T3 s5) (hv.kx kx) ct et⟩
end
abbrev sForm : Stmt := topS 41
theorem scForm : FnScope ["_law_numbers_here", "_law_raw_here"] ["_law_numbers_here", "_law_raw_here"] (defScope sForm) := ⟨rfl, rfl, rfl, by decide +kernel, rfl, by decide +kernel, by decide +kernel⟩
theorem Rw.mem {k : Bool} {B : Nat} {S : List Int} : ∀ {t : Tr}, Rw k B S t → ∀ n ∈ t.nums, n ∈ S
  | .lf _, _, n, h => by cases h
  | .nd m y o, h, n, hn => by
    rcases List.mem_cons.mp hn with e | e
    · rw [e]; exact h.1
    · rcases List.mem_append.mp e with e | e
      · exact Rw.mem h.2.1 n e
      · exact Rw.mem h.2.2 n e
theorem Rw.ev {k : Bool} {B : Nat} {S : List Int} {r : Rho} : ∀ {t : Tr}, Rw k B S t → Lg k B (t.ev r)
  | .lf _, h => h
  | .nd m y o, h => by
    show Lg k B (if r m = true then y.ev r else o.ev r)
    split
    · exact Rw.ev h.2.1
    · exact Rw.ev h.2.2
theorem known_of {ns : List Int} {more : List (Int × Bool)} {t : Tr} (hm : more.map (·.1) = ns) (h : ∀ n ∈ t.nums, n ∈ ns) : ∀ n ∈ t.nums, (lookW more n).isSome = true := fun n hn => lookW_some (by rw [hm]; exact h n hn)
theorem wd_of {H : Hp} {d : Addr} {ws : List (Int × Bool)} (h : Wl H d ws) : Wd H d (lookW ws) := ⟨_, h.1, val_kvW ws⟩
def spForm (T : List (Addr × Str)) : Sp := fun vs H Q _ => ∃ (a : Addr) (v : V) (ns : List Int) (t : Tr) (k : Bool), vs = [.ref a, v] ∧ H a = some (.lst (ns.map V.int)) ∧ ns.length ≤ 12 ∧ Asc ns ∧ (∀ n ∈ ns, n.natAbs < 2 ^ 1900) ∧ Tv H v t ∧ Rw k 66 ns t ∧ Tabs T H ∧
  ∀ v' H' t', ExtN H H' → Tabs T H' → Tv H' v' t' → Cn (Lg k 66) ns t' → (∀ r, t'.ev r = t.ev r) → Q v' H'
section
variable {P : Program} {w : World} {K : PySem.W.Frag} {mg : Str → Option Value} {base : Heap}
theorem ok_form {f c Pt : Addr} {fd : FuncData} {T : List (Addr × Str)} (Fn : Fun K "_law_form" "_law_form" sForm f fd) (hc : fnCode K f = some (.ref c)) (TB : TabB base mg c Pt) (hm : (Pt, ("_law_form" : Str) ++ ".<locals>." ++ "<lambda>") ∈ T) (hu : ∀ p ∈ T, p.1 = Pt → p.2 = ("_law_form" : Str) ++ ".<locals>." ++ "<lambda>")
    (dt : DfG P w K mg base "_law_tree" 19 ["_law_numbers_here", "_law_words", "_law_ask"] (spTree P w K mg base 13)) (dv : Df P w K mg base "_law_value" 1 ["_law_raw_here", "_law_words"] spValue) :
    FnG P w K mg base CX0 20 f fd ["_law_numbers_here", "_law_raw_here"] (spForm T) := by
  refine okGC Fn hc scForm (k := 19) (fun vs H Q E h => ?_) (fun A outer s H vs Q E hr gd h => ?_)
  · obtain ⟨a, v, ns, t, k, rfl, _⟩ := h
    rfl
  · obtain ⟨a, v, ns, t, k, rfl, ha, h12, asc, small, hv, hw, hT, q⟩ := h
    refine ⟨_, pss_one (ps_ret (pe_lendLam (T := T) (fr := ["_law_raw_here"]) (js := [1]) dt hr gd (by rfl) TB rfl hm hu (by show ndefB (defScope sForm) _ _ = true; decide +kernel) rfl (fun _ _ => rfl) (by decide) (pv 0) pe_dnewK)), ?_⟩
    refine ⟨_, rfl, fun d nd => ?_⟩
    have s0 := same_upd (o := .dK []) nd
    refine rd_lend (N := ["_law_words", "_law_raw_here"]) (ws := []) (k := k) (B := 66) (val := fun r => t.ev r) (ns := ns) [v] (fun H1 => Tv H1 v t) (fun more => evW (lookW more) t) (fun c => nscope_by (by dsimp only [lamNF]; decide +kernel)) (fun c pm ctv us hl => match us, hl with | [_], _ => rfl) rfl rfl (fun c => rfl) (s0 _ _ ha) (by omega) h12 asc small (by decide) (by decide) ⟨upd_same, by decide, by decide⟩ (by show 0 + ns.length ≤ 60; omega) (fun n _ z => by cases z) (Cor.Tabs.same hT s0) (hv.same s0) (fun H1 H2 kz h => h.kz kz) (fun more hmore => ?_) (fun more r hmore => ?_) (fun f' c' A' outer' s' H0 d' more Q0 hr' hwl hmore g q0 => ?_) (fun v' H5 t' eN T5 hv' ct et => ?_)
    · exact Rw.ev hw
    · exact evW_eq (known_of hmore fun n hn => hw.mem n hn)
    · refine ⟨_, pe_df (E := E0) dv (hr'.mono (by decide)) (by rfl) (pa_cons (pv 1) (pa_cons (pv 0) pa_nil)), ?_⟩
      exact ⟨_, rfl, _, rfl, v, d', t, lookW more, rfl, g, wd_of hwl, known_of hmore fun n hn => hw.mem n hn, q0 H0 fun _ _ z => z⟩
    · exact q v' H5 t' (fun b o z n => eN b o (s0 b o z) n) T5 hv' ct fun r => et r
end
end Law
set_option Elab.async false
set_option linter.all false
set_option maxRecDepth 100000
set_option maxHeartbeats 1000000
namespace Law
open PySem PySem.Spec PyProof.Rows L2 Cor LamX NdefX
def OpT (K : PySem.W.Frag) (C : Addr) (op : Operator) (T : String) : Prop := ∃ (fo ro rc : Option Value), PySem.W.findIn K (.ref C) (PySem.dunderR op.info.2) = some rc ∧ (rc = none ∨ ∃ g : Addr, rc = some (.ref g)) ∧ PySem.W.findIn K (.type T) (PySem.dunder op.info.2) = some fo ∧
  PySem.W.findIn K (.type T) (PySem.dunderR op.info.2) = some ro ∧ PySem.W.subIn K (.type T) (.ref C) = some false
def EqW (P : Program) (w : World) (K : PySem.W.Frag) (mg : Str → Option Value) (base : Heap) (C : Addr) : Prop := ∃ g, PySem.W.findIn K (.ref C) "__eq__" = some (some (.ref g)) ∧ MdR P w K mg base 26 g (spEqW C) ∧ PySem.W.findIn K (.ref C) "__ne__" = some (some (.builtin "object.__ne__")) ∧ PySem.W.subIn K (.ref C) (.type "object") = some true
section
variable {X : Cx} {C : Addr}
theorem op_We (D : EqW X.prog X.w X.K X.mg X.base C) (hr : Room 26 X.A) : OpR X (compareOp .Eq) (rOw2 C (spEqW C)) := let ⟨_, h, M, _⟩ := D; op_owEq h M hr
theorem op_Wn (D : EqW X.prog X.w X.K X.mg X.base C) (hr : Room 27 X.A) : OpR X (compareOp .NotEq) (rOwNe C (spEqW C)) := let ⟨_, h, M, h2, h3⟩ := D; op_owNe h h2 h3 M hr
end
theorem Sml.sm : ∀ {t : Tr}, Sml t → Sm t
  | .lf (.i _), h => h
  | .lf (.b _), _ => True.intro
  | .nd _ _ _, h => ⟨h.1, Sml.sm h.2.1, Sml.sm h.2.2⟩
theorem calm_of (s : Str) (h : s.cps.toList.all signOk = true) : Calm s := fun c hc => List.all_eq_true.mp h c hc
theorem calm_txt : ∀ t : Tr, Calm (txt t)
  | .lf (.i n) => calm_int n
  | .lf (.b true) => calm_of _ (by decide +kernel)
  | .lf (.b false) => calm_of _ (by decide +kernel)
  | .nd n y o => by
    show Calm (Str.empty ++ "(" ++ Str.ofString (toString n) ++ " ? " ++ txt y ++ " : " ++ txt o ++ ")")
    exact Calm.append (Calm.append (Calm.append (Calm.append (Calm.append (Calm.append (Calm.append (calm_of _ (by decide +kernel)) (calm_of _ (by decide +kernel))) (calm_int n)) (calm_of _ (by decide +kernel))) (calm_txt y)) (calm_of _ (by decide +kernel))) (calm_txt o)) (calm_of _ (by decide +kernel))
/-- the text of repr -/
def rtx (t : Tr) : Str := "Worth('" ++ txt t ++ "')"
theorem rtx_eq (t : Tr) : Str.empty ++ "Worth(" ++ reprText (txt t) ++ ")" = rtx t := by
  rw [calm_repr (calm_txt t), Str.empty_append]
  unfold rtx
  have e1 : ("Worth('" : Str) = "Worth(" ++ "'" := by decide +kernel
  have e2 : ("')" : Str) = "'" ++ ")" := by decide +kernel
  rw [e1, e2]
  simp only [Str.append_assoc]
theorem strOk_of (s : String) : PyData.strOk (Str.ofString s) = true := by
  unfold PyData.strOk
  rw [Str.ofString_eq_toList]
  simp only [List.all_toArray, List.all_map, List.all_eq_true]
  intro c _
  show decide (c.toNat < 1114112) = true
  refine decide_eq_true ?_
  have h := c.valid
  have e : c.toNat = c.val.toNat := rfl
  rcases h with h | h
  · have h : c.val.toNat < 55296 := h
    omega
  · have h : c.val.toNat < 1114112 := h.2
    omega
theorem strOk_app {a b : Str} (ha : PyData.strOk a = true) (hb : PyData.strOk b = true) : PyData.strOk (a ++ b) = true := by
  unfold PyData.strOk at *
  rw [Str.cps_append, Array.all_append, ha, hb]
  rfl
theorem strOk_calm {x : Str} (h : Calm x) : PyData.strOk x = true := by
  unfold PyData.strOk
  rw [Array.all_eq_true]
  intro i hi
  have z := h x.cps[i] (Array.mem_toList_iff.mpr (Array.getElem_mem hi))
  unfold signOk at z
  simp only [Bool.and_eq_true, decide_eq_true_eq] at z
  exact decide_eq_true (Nat.lt_trans z.1.1.2 (by decide))
theorem shaped2 {a b : Str} (ha : PyData.strOk a = true) (hb : PyData.strOk b = true) : SeqAt.shaped (.list [.str a, .str b]) = true := by
  unfold SeqAt.shaped
  have e : PyData.canLay0 (.list [.str a, .str b]) = (PyData.strOk a && (PyData.strOk b && true)) := rfl
  rw [e, ha, hb]
  rfl
theorem eqv2 {a b : Str} : (!PyData.eqv (.list [.str a, .str b]) (.list [.str a, .str b])) = false := by
  show (!((a == a) && ((b == b) && true))) = false
  simp
theorem join_len : ∀ ts : List Str, (Str.join ", " ts).length ≤ (ts.map fun t => t.length + 2).sum
  | [] => by decide
  | [x] => by show x.length ≤ x.length + 2 + 0; omega
  | x :: y :: r => by
    have ih := join_len (y :: r)
    show (x ++ ", " ++ Str.join ", " (y :: r)).length ≤ _
    rw [Str.length_append, Str.length_append, show Str.length (Str.ofString ", ") = 2 from by decide +kernel, List.map_cons, List.sum_cons]
    omega
theorem nums_len : ∀ ns : List Int, (∀ n ∈ ns, n.natAbs.log2 < 1920) → ((ns.map fun n => ((toString n : String) : Str)).map fun t => t.length + 2).sum ≤ 1923 * ns.length
  | [], _ => by decide
  | n :: ns, h => by
    have ih := nums_len ns fun m hm => h m (List.mem_cons_of_mem _ hm)
    have h1 := num_len (h n List.mem_cons_self)
    simp only [List.map_cons, List.sum_cons, List.length_cons]
    omega
/-- [words, plain, is_truth] -/
def toldD (ns : List Int) (t : Tr) (k : Bool) : PyData := .list [.tuple (ns.map .int), (match t with | .lf l => l.d | .nd _ _ _ => .none), .bool k]
theorem show_ints : ∀ ns : List Int, (∀ n ∈ ns, n.natAbs.log2 < 1920) → PyData.showableAll (ns.map .int) = true
  | [], _ => rfl
  | n :: ns, h => by
    show (PyData.showable (.int n) && PyData.showableAll (ns.map .int)) = true
    rw [show_ints ns fun m hm => h m (List.mem_cons_of_mem _ hm), show PyData.showable (.int n) = true from decide_eq_true (h n List.mem_cons_self)]
    rfl
theorem nodict_ints : ∀ ns : List Int, PyData.hasDictAll (ns.map .int) = false
  | [] => rfl
  | n :: ns => by
    show (PyData.hasDict (.int n) || PyData.hasDictAll (ns.map .int)) = false
    rw [nodict_ints ns]; rfl
def plainD : Tr → PyData
  | .lf l => l.d
  | .nd _ _ _ => .none
theorem told_eq (ns : List Int) (t : Tr) (k : Bool) : toldD ns t k = .list [.tuple (ns.map .int), plainD t, .bool k] := by cases t <;> rfl
theorem plain_show : ∀ {t : Tr}, Sml t → (plainD t).showable = true ∧ (plainD t).hasDict = false ∧ (plainD t).depth = 0 ∧ (plainD t).shown.length ≤ 1921
  | .lf (.i n), h => ⟨decide_eq_true h, rfl, rfl, by rw [show plainD (.lf (.i n)) = .int n from rfl, PyData.shown_int]; exact num_len h⟩
  | .lf (.b true), _ => ⟨rfl, rfl, rfl, by decide +kernel⟩
  | .lf (.b false), _ => ⟨rfl, rfl, rfl, by decide +kernel⟩
  | .nd _ _ _, _ => ⟨rfl, rfl, rfl, show Str.length (Str.ofString "None") ≤ 1921 by decide +kernel⟩
theorem asc_eq {ns ms : List Int} (h : Asc ns) (h' : Asc ms) (e : ∀ n, n ∈ ns ↔ n ∈ ms) : ns = ms :=
  (asc_sub h' h fun n hn => (e n).mp hn).eq_of_length_le (asc_sub h h' fun n hn => (e n).mpr hn).length_le
theorem plain_dp {K : PySem.W.Frag} {H : Hp} : ∀ {t : Tr} {v : V}, Tv H v t → Dp K H (match t with | .lf l => Lf.v l | .nd _ _ _ => .non) (plainD t)
  | .lf (.i n), _, _ => .int n
  | .lf (.b n), _, _ => .bl n
  | .nd _ _ _, _, _ => .non
abbrev sWRepr : Stmt := inClass (topS 31) 25
abbrev sIs : Stmt := topS 44
theorem scWRepr : FnScope ["self"] ["self"] (defScope sWRepr) := ⟨rfl, rfl, rfl, by decide +kernel, rfl, by decide +kernel, by decide +kernel⟩
theorem scIs : FnScope ["_law_worth", "_law_tree_here", "_law_text_here", "_law_plain", "_law_first", "_law_told_here"] ["_law_worth", "_law_tree_here"] (defScope sIs) := ⟨rfl, rfl, rfl, by decide +kernel, rfl, by decide +kernel, by decide +kernel⟩
def spReprW (C : Addr) : Sp := fun vs H Q _ => ∃ (a : Addr) (t : Tr), vs = [.ref a] ∧ Wo C H a t ∧ t.dep ≤ 12 ∧ Sm t ∧ Q (.str (rtx t)) H
section
variable {P : Program} {w : World} {K : PySem.W.Frag} {mg : Str → Option Value} {base : Heap} {C : Addr}
theorem ok_wRepr {f : Addr} {fd : FuncData} (F : Fun K "__repr__" "Worth.__repr__" sWRepr f fd) (W : WCl K mg C) (D : WD P w K mg base C) : FnOk P w K mg base CX0 24 f fd ["self"] (spReprW C) := by
  refine F.ok scWRepr (fun vs H Q E h => ?_) (fun cdv A outer s H vs Q E hr h => ?_)
  · obtain ⟨a, t, rfl, _⟩ := h
    rfl
  · obtain ⟨a, t, rfl, ⟨dx, v, h1, hv⟩, d12, sm, q⟩ := h
    refine ⟨_, (pss_one (ps_ret (pe_joined (PJ.cons pe_str (PJ.cons (pe_fmtR (pe_df (E := E0) D.text hr (by rfl) (pa_cons (pe_fld (pv 0) rfl) pa_nil))) (PJ.cons pe_str PJ.nil)))))), ?_⟩
    have e := rtx_eq t
    have fit := txt_fits sm d12
    have len := txt_len sm
    have p : 2 ^ t.dep ≤ 2 ^ 12 := Nat.pow_le_pow_right (by decide) d12
    have lr : (reprText (txt t)).length = (txt t).length + 2 := by
      rw [calm_repr (calm_txt t), Str.length_append, Str.length_append, show Str.length (Str.ofString "'") = 1 from by decide +kernel]
      omega
    have sz : sizeLine = 16777216 := rfl
    have w0 : Str.length (Str.empty ++ "Worth(") = 6 := by decide +kernel
    have c1 : Str.length (Str.ofString ")") = 1 := by decide +kernel
    refine ⟨_, rfl, ?_, _, rfl, a, C, dx, _, _, rfl, h1, W.cl, W.nt, rfl, v, t, rfl, hv, by omega, d12, sm, .inl ⟨_, rfl, ?_, _, rfl, ?_, _, rfl, ?_, ?_⟩⟩
    · decide +kernel
    · omega
    · rw [Str.length_append, w0]; omega
    · rw [Str.length_append, Str.length_append, w0, c1]; omega
    · show Q (.str (Str.empty ++ "Worth(" ++ reprText (txt t) ++ ")")) H
      rw [e]
      exact q
end
end Law
set_option Elab.async false
set_option linter.all false
set_option maxRecDepth 100000
set_option maxHeartbeats 1000000
namespace Cor
open PySem PySem.Spec PyProof.Rows L2 LamX NdefX
/-- all but lists and tables stand -/
def Kq (H H' : Hp) : Prop := ∀ b o, (∀ xs, o ≠ .lst xs) → (∀ ps, o ≠ .tbl ps) → H b = some o → H' b = some o
theorem Kq.refl {H : Hp} : Kq H H := fun _ _ _ _ e => e
theorem Kq.trans {H H1 H2 : Hp} (a : Kq H H1) (b : Kq H1 H2) : Kq H H2 := fun c o n m e => b c o n m (a c o n m e)
end Cor
namespace Law
open PySem PySem.Spec PyProof.Rows L2 Cor LamX NdefX
/-- all but what stands at p and tables stand -/
def SbT (p : Addr) (H H' : Hp) : Prop := ∀ b o, b ≠ p → (∀ ps, o ≠ .tbl ps) → H b = some o → H' b = some o
theorem SbT.refl {p : Addr} {H : Hp} : SbT p H H := fun _ _ _ _ e => e
theorem SbT.trans {p : Addr} {H H1 H2 : Hp} (a : SbT p H H1) (b : SbT p H1 H2) : SbT p H H2 := fun c o n m e => b c o n m (a c o n m e)
theorem _root_.Cor.SameBut.sbt {p : Addr} {H H' : Hp} (h : SameBut p H H') : SbT p H H' := fun b o n _ e => h b o n e
theorem _root_.LamX.ExtN.sbt {p : Addr} {H H' : Hp} (h : ExtN H H') : SbT p H H' := fun b o _ n e => h b o e n
theorem _root_.L2.Same.sbt {p : Addr} {H H' : Hp} (h : Same H H') : SbT p H H' := fun b o _ _ e => h b o e
theorem SbT.lst {p a : Addr} {H H' : Hp} {xs : List V} (h : SbT p H H') (n : a ≠ p) (e : H a = some (.lst xs)) : H' a = some (.lst xs) := h a _ n (fun _ z => by cases z) e
theorem SbT.sq {K : PySem.W.Frag} {H H1 H2 : Hp} {a p : Addr} {xs : List V} (h : SqL K H a xs) (np : H p = none) (S1 : Same H H1) (SB : SbT p H1 H2) : SqL K H2 a xs := by
  rcases h with (h | ⟨o, h⟩) | h
  · exact .inl (.inl (SB _ _ (ne_of_none h np) (fun _ z => by cases z) (S1 _ _ h)))
  · exact .inl (.inr ⟨o, SB _ _ (ne_of_none h np) (fun _ z => by cases z) (S1 _ _ h)⟩)
  · exact .inr h
theorem _root_.Cor.Box.ext {H H' : Hp} {p : Addr} (h : Box H p) (s : ExtN H H') : Box H' p := let ⟨b, s', c, e, x⟩ := h; ⟨b, s', c, s _ _ e (fun _ z => by cases z), x⟩
/-- tables where only the box and new things were written -/
theorem tabs_but {T : List (Addr × Str)} {p : Addr} {H H' : Hp} (hT : Tabs T H) (hb : Box H p) (s : SameBut p H H') : Tabs T H' := fun q hq => by
  obtain ⟨ps, h1, h2, h3⟩ := hT q hq
  obtain ⟨b0, s0, c0, e0, _⟩ := hb
  have ne : ∀ {b o}, (∀ xs, o ≠ .lst xs) → H b = some o → b ≠ p := fun {b o} n e z => by
    rw [z, e0] at e
    exact n _ (Option.some.inj e).symm
  refine ⟨ps, s _ _ (ne (fun _ z => by cases z) h1) h1, h2, fun pos cv hc => ?_⟩
  obtain ⟨c, e1, e2⟩ := h3 pos cv hc
  exact ⟨c, e1, s _ _ (ne (fun _ z => by unfold CodeO at z; cases z) e2) e2⟩
/-- .. where a list was written -/
theorem tabs_upd {T : List (Addr × Str)} {a : Addr} {H : Hp} {xs : List V} {o : HO} (hT : Tabs T H) (e : H a = some (.lst xs)) : Tabs T (upd H a o) := fun q hq => by
  obtain ⟨ps, h1, h2, h3⟩ := hT q hq
  have ne : ∀ {b o}, (∀ xs, o ≠ .lst xs) → H b = some o → b ≠ a := fun {b o} n e' z => by
    rw [z, e] at e'
    exact n _ (Option.some.inj e').symm
  refine ⟨ps, by rw [upd_ne (ne (fun _ z => by cases z) h1)]; exact h1, h2, fun pos cv hc => ?_⟩
  obtain ⟨c, e1, e2⟩ := h3 pos cv hc
  exact ⟨c, e1, by rw [upd_ne (ne (fun _ z => by unfold CodeO at z; cases z) e2)]; exact e2⟩
end Law
set_option Elab.async false
set_option linter.all false
set_option maxRecDepth 100000
set_option maxHeartbeats 1000000
namespace Cor
open PySem PySem.Spec PyProof.Rows L2 PySem.OEX PySem.W
section
variable {X : Cx} {x : Str} {e : Expr} {es : List Expr} {ta : TA} {p pos : Pos} {newId initId : String}
theorem pmk_exn {CX : CXT} {C fI : Addr} {k : Nat} {fd : FuncData} {ps : List Str} {sp : Sp} (T : Exn X.K C newId initId) (iC : PySem.W.findIn X.K (.ref C) "__init__" = some (some (.ref fI))) (tI : PySem.W.typeIn X.K (.ref fI) = some (.type "function"))
    (F1 : FnOk X.prog X.w X.K X.mg X.base CX k fI fd ps sp) (hr : Room (k + 1) X.A) (hb : Binds X.K fd ps []) (hx : Passes CX X (fun _ _ _ => False)) (hg : Gl X x) (hm : X.mg x = some (.ref C)) (ha : PA X (e :: es) ta)
    (hdb : (x == ("__debug__" : Str)) = false := by decide) (he : starEach (e :: es) X.env = (false, eval e X.env) :: starEach es X.env := by rfl) (hpl : (backTo pos (starEach es X.env)).any (·.1) = false := by rfl) :
    PMk X (.Call (.Name x p) (e :: es) [] pos) (tMkO C sp [] ta) := by
  intro pins s σ H Q I h
  obtain ⟨Bn, Bi, nm, q, N, bs, bm, sn, sub, ab, col, dd, k0, k1, k2, k3, k5, b, l⟩ := T.cls
  obtain ⟨i0, bmB, NF⟩ := b.nw
  have L : Line Bn bm := ⟨by rw [strip_cont]; exact b.line.has, by rw [strip_cont]; exact b.line.noA, by rw [strip_cont]; exact b.line.noN⟩
  refine wpAny_Call_Name_kw (ld_glob I hg hm ?_ hdb)
  refine PySem.W.callWith_K (h₀ := X.base) I.ok.mod.kin T.kC (thn (ha.run pos pins s σ H _ I h) fun us s1 ⟨vs, H1, I1, r1, hz, q1⟩ => ⟨I1.kIn, ?_⟩) he hpl
  show wpAny _ _ (call (.ref C) us) _ _ _
  have hus : us.length ≤ sizeLine := by
    rw [← Paired.length r1, sizeLine_eq]
    omega
  obtain ⟨hp, g, dr, tk, os⟩ := s1
  have hsz : hp.objs.size ≤ hp.objs.size + 1 := Nat.le_succ _
  have hn : H1 (hp.objs.size + 1) = none := I1.hok.fresh hsz
  have hq := q1 (hp.objs.size + 1) hn
  have kk : ∀ b o, hp.get? b = some o → ((hp.push (PySem.W.kdv_tup us)).push (HandSPX.excO C hp.objs.size)).get? b = some o := fun b o e => Heap.get?_push_of_some _ (Heap.get?_push_of_some _ e)
  have hget : ((hp.push (PySem.W.kdv_tup us)).push (HandSPX.excO C hp.objs.size)).get? (hp.objs.size + 1) = some (HandSPX.excO C hp.objs.size) := by heap_get
  have I2 : Inv X pins σ (upd H1 (hp.objs.size + 1) (exo (hp.objs.size + 1) C none)) ⟨(hp.push (PySem.W.kdv_tup us)).push (HandSPX.excO C hp.objs.size), g, dr, tk, os⟩ :=
    I1.laid (t' := tk) (a := hp.objs.size + 1) (o := exo (hp.objs.size + 1) C none) (h' := (hp.push (PySem.W.kdv_tup us)).push (HandSPX.excO C hp.objs.size)) kk hsz (exo_ok hget)
  rw [List.append_nil] at hq
  have r2 : Vals (V.ref (hp.objs.size + 1) :: vs) (Value.ref (hp.objs.size + 1) :: us) := .cons rfl r1
  have hl : (Value.ref (hp.objs.size + 1) :: us ++ []).length = ps.length := by
    rw [List.append_nil]
    have e := r2.length
    rw [F1.len _ _ _ _ hq] at e
    exact e.symm
  have hbb := hb ⟨(hp.push (PySem.W.kdv_tup us)).push (HandSPX.excO C hp.objs.size), g, dr, tk, os⟩ (Value.ref (hp.objs.size + 1) :: us) I2.kIn hl
  rw [List.append_nil] at hbb
  refine wpAny_call (call_cls NF L (I1.kIn _ _ l) (PySem.W.looks_findIn I1.kIn iC) (fun self => PySem.W.bind_fn I1.kIn self tI) hus ?_)
  refine codeAny_mono (F1.run _ X.stack _ _ ⟨Value.ref (hp.objs.size + 1) :: us, []⟩ (Value.ref (hp.objs.size + 1) :: us) _ _ (fun _ _ _ => False) (hr.make C us []) (I2.env0.make C us []) hbb r2 hq) fun r s' hq' => ?_
  cases r with
  | error er => exact hx pins σ _ _ er s' I2 hq'
  | ok fl =>
    cases fl with
    | ret u =>
      obtain ⟨v, H2, os2, bare2, un2, hok2, rv, ev, d, fs, ea, ed, hd1, q2⟩ := hq'
      subst ev
      obtain ⟨h2, g2, d2, t2, os'⟩ := s'
      exact ⟨rv, mk_end (raises_own T.exC T.tyC) I1 hsz kk un2 hok2 os2 bare2 ea ed hd1 q2⟩
    | next => exact False.elim hq'
    | brk => exact False.elim hq'
    | cont => exact False.elim hq'
end
/-- raise x(e): all that stood, and the exception's dict -/
def tMkX (C : Addr) (f : Str) (te : TE) : L2.St → Hp → XK → Prop := fun σ H Q => te σ H fun v H1 => ∀ d H', Same H1 H' → H1 d = none → H' d = some (.xd [(f, v)]) → Q (.ref C) (some d) H'
theorem PMk.imp {X : Cx} {e : Expr} {t t' : L2.St → Hp → XK → Prop} (h : PMk X e t) (i : ∀ σ H Q, t' σ H Q → t σ H Q) : PMk X e t' := fun pins s σ H Q I q => h pins s σ H Q I (i σ H Q q)
theorem pmk_x {X : Cx} {C : Addr} {f x : Str} {te : TE} {e : Expr} {p pos : Pos} (D : Xcl X.prog X.w X.K X.mg X.base x C f) (hr : Room 2 X.A) (hg : Gl X x) (he : PE X e te) (hdb : (x == ("__debug__" : Str)) = false := by decide) (hs : starEach [e] X.env = (false, eval e X.env) :: starEach [] X.env := by rfl) :
    PMk X (.Call (.Name x p) [e] [] pos) (tMkX C f te) := by
  obtain ⟨n, i, fI, fd, T, h1, h2, F, b, _, m, _⟩ := D
  refine PMk.imp (pmk_exn T h1 h2 F hr b pass0 hg m (pa_cons he.up pa_nil hs) hdb hs rfl) fun σ H Q q => ?_
  refine ⟨_, q, fun v H1 z => ⟨by show 1 ≤ 1000; decide, fun a na => ?_⟩⟩
  refine ⟨a, v, rfl, upd_same, fun dx hd hne => ⟨rfl, dx, _, upd_same, by rw [upd_ne hne, upd_same], ?_, ?_⟩⟩
  · rw [upd_ne hne] at hd
    exact hd
  · rw [upd_ne hne] at hd
    refine z dx _ (fun b o e => ?_) hd upd_same
    rw [upd_ne (ne_of_none e hd), del_ne (ne_of_none e na), upd_ne (ne_of_none e na), upd_ne (ne_of_none e hd), upd_ne (ne_of_none e na)]
    exact e
section
variable {X : Cx} {pins : List (Addr × Obj)} {σ : L2.St} {H : Hp} {s : Shared}
theorem run_fnRW {k : Nat} {f : Addr} {sp : Sp} {W : WX} {Q : VK} {us : List Value} {vs : List V} (F : FnR X.prog X.w X.K X.mg X.base (L2.CX X.prog X.w) k f sp) (hr : Room k X.A) (tk : Takes X W) (I : Inv X pins σ H s) (r : Vals vs us) (h : sp vs H Q (fun cls d H' => W cls d σ H')) :
    codeAny (model X.prog X.w) X.A (.call (.ref f) ⟨us, []⟩) (fun r s' => match r with | .ok (.ret v) => EP X pins σ Q v s' | .ok _ => False | .error e => X.xe e s') s := by
  refine codeAny_mono (F X.A X.stack s H us vs Q _ hr I.env0 r h) fun r s' hq => ?_
  cases r with
  | error e => exact tk e s' (XE.of_call I (fun cls d H' h => h) hq)
  | ok fl =>
    cases fl with
    | ret u => exact I.after hq
    | next => exact False.elim hq
    | brk => exact False.elim hq
    | cont => exact False.elim hq
end
/-- what a call asks -/
def tW (W : WX) (sp : Sp) (ta : TA) : TE := fun σ H Q => ta σ H fun vs H1 => sp vs H1 Q (fun cls d H2 => W cls d σ H2)
def MdX (P : Program) (w : World) (K : PySem.W.Frag) (mg : Str → Option Value) (base : Heap) (k : Nat) (f : Addr) (sp : Sp) : Prop := FnR P w K mg base (L2.CX P w) k f sp ∧ PySem.W.isFn K (.ref f) = true ∧ PySem.W.keepIn K (.ref f) = true
section
variable {X : Cx} {e : Expr} {es : List Expr} {ta : TA} {m x : Str} {p p1 p2 pos : Pos} {S f : Addr} {k : Nat} {sp : Sp} {W : WX}
/-- S.m(e, ..), m a static method -/
theorem pe_smW {pl : Sem Bool} (T : Stm X.K X.mg x S m f) (M : MdX X.prog X.w X.K X.mg X.base k f sp) (hr : Room k X.A) (tk : Takes X W) (hg : Gl X x) (ha : PA X (e :: es) ta) (hdb : (x == ("__debug__" : Str)) = false := by decide)
    (hc : eval (.Call (.Attribute (.Name x p1) m p2) (e :: es) [] pos) X.env = (do
      let ov ← eval (.Name x p1) X.env
      standAt p2.atName
      let (f, first) ← holding [ov] (getMethod ov m pl)
      callWith pos f first (backTo pos (starEach (e :: es) X.env)) (backToKw pos (keywordEach [] X.env))) := by rfl)
    (he : starEach (e :: es) X.env = (false, eval e X.env) :: starEach es X.env := by rfl) (hpl : (backTo pos (starEach es X.env)).any (·.1) = false := by rfl) :
    PE X (.Call (.Attribute (.Name x p1) m p2) (e :: es) [] pos) (tW W sp ta) := by
  refine ⟨fun pins s σ H Q I h => ?_⟩
  obtain ⟨mc, rd, p, rest, fc, rc⟩ := T.rd
  refine PySem.W.methodCall_KW (ld_glob I hg T.nm ?_ hdb) hc
  refine PySem.W.method_cls I.kIn rd.ga (PySem.W.cls_bind I.kIn rd.rd fc (wpAny_call (PySem.W.sm_get (s := { s with toks := s.toks + 1 }) I.kIn rc (PySem.W.handed_on rfl ?_))))
  refine PySem.W.callWith_K (h₀ := X.base) I.ok.mod.kin M.2.2 (thn (ha.run pos pins _ σ H _ (I.tok _) h) fun us s1 ⟨vs, H1, I1, r, q⟩ => ⟨I1.kIn, ?_⟩) he hpl
  exact wpAny_call (run_fnRW M.1 hr tk I1 r q)
end
def rIsD (K : PySem.W.Frag) (a : Addr) (cls : Value) (d : Option Addr) : List V → Hp → VK → Prop := fun xs H Q => ∃ (D dd : Addr) (fs : List (Str × V)) (n i : String) (c : V) (cv : Value) (b : Bool), cls = .ref D ∧ d = some dd ∧ xs = [.ref a, c] ∧ H dd = some (.xd fs) ∧ Exn K D n i ∧ (∀ u, RelV c u → u = cv) ∧ PySem.W.kitOne K (.ref D) cv = some b ∧ Q (.bl b) H
theorem call_isD {X : Cx} {a : Addr} {cls : Value} {d : Option Addr} {oe : Obj} {pn : List (Addr × Obj)} (hz : Zc cls d oe) (hf : ∃ vs, oe.data = .fields vs) : CallR (X.suite a ((a, oe) :: pn)) (.builtin "isinstance") (rIsD X.K a cls d) := by
  intro pins s σ H xs us Q I r h
  obtain ⟨D, dd, fs, n, i, c, cv, b, rfl, rfl, rfl, ed, T, hcv, e, q⟩ := h
  cases r with
  | cons rx rr =>
    cases rr with
    | cons rt rr =>
      cases rr
      cases rx
      have ec := hcv _ rt
      subst ec
      obtain ⟨hget, _⟩ := I.pin (a, oe) (List.mem_append.mpr (.inl List.mem_cons_self))
      obtain ⟨vs, hv⟩ := hf
      have hx : ObjOk X.prog X.w H s.heap dd (.xd fs) := I.hok dd _ ed
      obtain ⟨mA, hns, hr⟩ := hx
      obtain ⟨od, ho, hl⟩ := lookIn_ns hns
      have J : PySem.W.InstAt s.heap a oe D (some od) := ⟨hget, hz.1, by unfold PySem.W.notCls; rw [hv] <;> rfl, by rw [hz.2]; exact ho⟩
      obtain ⟨cd, hc, _⟩ := PySem.W.any_some T.hd
      exact PySem.W.kia_one (PySem.W.kitx_exc (by rw [hc]; rfl) T.ga T.gg T.exC T.ca T.cn T.ct T.mr) I.kIn J e (fun z => nomatch z) fun tk => ⟨.bl b, H, I.kept (t' := tk) fun _ _ z => z, rfl, q⟩
end Cor
set_option Elab.async false
set_option linter.all false
set_option maxRecDepth 100000
set_option maxHeartbeats 1000000
namespace Law
open PySem PySem.Spec PyProof.Rows L2 Cor LamX NdefX
abbrev sNoWorth : Stmt := inClass (topS 3) 0
theorem scNoWorth : FnScope ["self", "value"] ["self", "value"] (defScope sNoWorth) := ⟨rfl, rfl, rfl, by decide +kernel, rfl, by decide +kernel, by decide +kernel⟩
structure NwT (K : PySem.W.Frag) (mg : Str → Option Value) (S CN : Addr) (mc : Value) : Prop where
  mStoreError : mg "StoreError" = some (.ref S)
  rdS : ClX.CRead K S mc
  vS : PySem.W.findCls K (.ref S) mc "__init__" = some (.val (.builtin "ValueError.__init__"))
  mNoWorth : mg "NoWorth" = some (.ref CN)
  xNoWorth : Exn K CN "ValueError.__new__" "ValueError.__init__"
  fNoWorth : PySem.W.findIn K (.ref CN) "value" = some none
section
variable {P : Program} {w : World} {K : PySem.W.Frag} {mg : Str → Option Value} {base : Heap} {S CN : Addr} {mc : Value}
theorem ok_NoWorth {f : Addr} {fd : FuncData} (F : Fun K "__init__" "NoWorth.__init__" sNoWorth f fd) (T : NwT K mg S CN mc) : FnOk P w K mg base CX0 1 f fd ["self", "value"] (spInit CN "value") := by
  refine F.ok scNoWorth (fun vs H Q E h => ?_) (fun cdv A outer s H vs Q E hr h => ?_)
  · obtain ⟨a, v, rfl, _⟩ := h
    rfl
  · obtain ⟨a, v, rfl, ha, q⟩ := h
    refine ⟨_, pss_cons (ps_expr (pe_iniO rfl T.mStoreError T.rdS T.vS (pa_cons (pv 0) (pa_cons pe_str pa_nil)))) (pss_one (ps_fld1 (pv 0) (pv 1))), ?_⟩
    refine ⟨_, rfl, a, CN, _, _, rfl, (by show 1 ≤ 1000; decide), T.xNoWorth, ha, ?_⟩
    exact ⟨_, rfl, _, rfl, a, CN, _, _, rfl, T.xNoWorth, T.fNoWorth, ha, fun dx hd hn => q dx hd hn⟩
end
def noW : List String := ["NoneType", "str", "tuple", "list"]
def NoW (K : PySem.W.Frag) (H : Hp) (v : V) : Prop := ∃ ty ∈ noW, TyX K H v (.type ty)
theorem noW_kit {K : PySem.W.Frag} : ∀ ty ∈ noW, PySem.W.kitOne K (.type ty) (.type "bool") = some false ∧ PySem.W.kitOne K (.type ty) (.type "int") = some false := by
  intro ty h
  simp only [noW, List.mem_cons, List.not_mem_nil, or_false] at h
  rcases h with rfl | rfl | rfl | rfl <;> exact ⟨kit_ty (r := false) (by decide +kernel), kit_ty (r := false) (by decide +kernel)⟩
/-- NoWorth(v) is let out -/
def Outs (CN : Addr) (H : Hp) (v : V) (E : XK) : Prop := ∀ d H', Same H H' → H' d = some (.xd [("value", v)]) → E (.ref CN) (some d) H'
def spTreeX (K : PySem.W.Frag) (CN : Addr) : Sp := fun vs H _ E => ∃ v, vs = [v] ∧ NoW K H v ∧ Outs CN H v E
section
variable {P : Program} {w : World} {K : PySem.W.Frag} {mg : Str → Option Value} {base : Heap} {C CN : Addr}
theorem ok_treeX {f : Addr} {fd : FuncData} (F : Fun K "tree_of" "tree_of" sTreeOf f fd) (T : GloW mg) (W : WCl K mg C) (nk : ∀ ty ∈ noW, PySem.W.kitOne K (.type ty) (.ref C) = some false) (nw : Xcl P w K mg base "NoWorth" CN "value") (di : Df P w K mg base "is_integer" 1 ["value"] (spIsInt K)) : FnOk P w K mg base (L2.CX P w) 3 f fd ["value"] (spTreeX K CN) := by
  refine F.okX scTreeOf (k := 2) (fun vs H Q E h => ?_) (fun cdv A outer s H vs Q E hr h => ?_)
  · obtain ⟨v, rfl, _⟩ := h
    rfl
  · obtain ⟨v, rfl, ⟨ty, hty, hv⟩, q⟩ := h
    have tk : Takes (cxOf (L2.CX P w) P w K mg base ["value"] "tree_of" (defScope sTreeOf) f cdv A outer s H E) (fun cls d _ H' => E cls d H') := takes_of rfl rfl rfl rfl
    refine ⟨_, (pss_cons (ps_if (pt_val (pe_callB (id := "isinstance") (show CallR _ (.builtin "isinstance") (rIsi K) from call_isi) (by rfl) T.isinstance (by decide +kernel) (pa_cons (pv 0) (pa_cons (pe_glob (v := .ref C) (by rfl) W.nm rfl) pa_nil)))) (pss_one ps_never) pss_nil)
      (pss_cons (ps_if (PW.pt (pw_or (pt_val (pe_callB (id := "isinstance") (show CallR _ (.builtin "isinstance") (rIsi K) from call_isi) (by rfl) T.isinstance (by decide +kernel) (pa_cons (pv 0) (pa_cons (pe_bltn (v := .ty "bool") (by rfl) T.bool (by decide +kernel) rfl) pa_nil)))) (pw_or1 (pt_val (pe_df (E := E0) di (hr.mono (by omega)) (by rfl) (pa_cons (pv 0) pa_nil)))))) (pss_one ps_never) pss_nil)
      (pss_one (ps_raise rfl tk (pmk_x nw hr (by rfl) (pv 0)))))), ?_⟩
    refine ⟨_, rfl, _, _, _, _, _, rfl, .own C, hv, nk ty hty, _, rfl, ?_⟩
    refine ⟨_, rfl, _, _, _, _, _, rfl, .ty "bool", hv, (noW_kit ty hty).1, _, rfl, ?_⟩
    refine ⟨_, rfl, _, _, _, _, rfl, hv, (noW_kit ty hty).2, (noW_kit ty hty).1, _, rfl, ?_⟩
    exact ⟨_, rfl, fun d H' s' nd hd => q d H' s' hd⟩
end
section
variable {P : Program} {w : World} {K : PySem.W.Frag} {mg : Str → Option Value} {base : Heap} {k : Nat} {f : Addr} {sp sp' : Sp}
theorem fnR_cx (F : FnR P w K mg base CX0 k f sp) : FnR P w K mg base (L2.CX P w) k f sp := fun A outer s H us vs Q E hr e0 r hs => codeAny_mono (F A outer s H us vs Q E hr e0 r hs) fun r s' h => by
  cases r with
  | error e => exact False.elim h
  | ok fl => cases fl <;> exact h
theorem fnR_or {CX : CXT} (F : FnR P w K mg base CX k f sp) (G : FnR P w K mg base CX k f sp') : FnR P w K mg base CX k f (fun vs H Q E => sp vs H Q E ∨ sp' vs H Q E) := fun A outer s H us vs Q E hr e0 r hs => by
  rcases hs with h | h
  · exact F A outer s H us vs Q E hr e0 r h
  · exact G A outer s H us vs Q E hr e0 r h
end
end Law
set_option Elab.async false
set_option linter.all false
set_option maxRecDepth 100000
set_option maxHeartbeats 1000000
set_option Elab.async false
set_option linter.all false
set_option maxRecDepth 100000
set_option maxHeartbeats 1000000
namespace Law
open PySem PySem.Spec PyProof.Rows L2 Cor
theorem dig_pos {c : Nat} {r : List Nat} (h : ∀ d ∈ c :: r, 48 ≤ d ∧ d ≤ 57) (hc : c ≠ 48) : 0 < NumText.digitsVal (c :: r) := by
  have key : ∀ (l : List Nat) (a : Nat), 0 < a → 0 < l.foldl (fun acc c => acc * 10 + (c - 48)) a := by
    intro l
    induction l with
    | nil => intro a ha; exact ha
    | cons x l ih => intro a ha; exact ih _ (Nat.add_pos_left (Nat.mul_pos ha (by decide)) _)
  show 0 < (c :: r).foldl (fun acc c => acc * 10 + (c - 48)) 0
  rw [List.foldl_cons]
  refine key r _ ?_
  have := h c List.mem_cons_self
  omega
theorem val_snoc (l : List Nat) (d : Nat) : NumText.digitsVal (l ++ [d]) = NumText.digitsVal l * 10 + (d - 48) := by
  unfold NumText.digitsVal
  rw [List.foldl_append]
  rfl
theorem numL_back : ∀ (n : Nat) (l : List Nat), l.length = n → (∀ d ∈ l, 48 ≤ d ∧ d ≤ 57) → l ≠ [] → (l.length = 1 ∨ l.head? ≠ some 48) → TL.numL (NumText.digitsVal l) = l
  | 0, l, hl, _, hne, _ => absurd (List.length_eq_zero_iff.mp hl) hne
  | n + 1, l, hl, hd, hne, hh => by
    obtain ⟨l', d, rfl⟩ : ∃ l' d, l = l' ++ [d] := ⟨l.dropLast, l.getLast hne, (List.dropLast_concat_getLast hne).symm⟩
    have hdd := hd d (by simp)
    rw [val_snoc]
    cases l' with
    | nil =>
      rw [show NumText.digitsVal [] * 10 + (d - 48) = d - 48 from by show 0 * 10 + (d - 48) = _; omega, TL.numL_lt (by omega), show 48 + (d - 48) = d by omega]
      rfl
    | cons c r =>
      have hc : c ≠ 48 := by
        rcases hh with h | h
        · simp at h
        · intro z
          exact h (by rw [z]; rfl)
      have hd' : ∀ x ∈ c :: r, 48 ≤ x ∧ x ≤ 57 := fun x hx => hd x (List.mem_append_left _ hx)
      have hp := dig_pos hd' hc
      have ih := numL_back n (c :: r) (by rw [List.length_append, List.length_singleton] at hl; omega) hd' (by simp) (.inr (fun z => hc (Option.some.inj z)))
      rw [TL.numL_step (by omega), show (NumText.digitsVal (c :: r) * 10 + (d - 48)) / 10 = NumText.digitsVal (c :: r) by omega, ih, show 48 + (NumText.digitsVal (c :: r) * 10 + (d - 48)) % 10 = d by omega]
theorem val_lt : ∀ (l : List Nat), (∀ d ∈ l, 48 ≤ d ∧ d ≤ 57) → NumText.digitsVal l < 10 ^ l.length := by
  intro l
  induction hn : l.length generalizing l with
  | zero =>
    intro _
    rw [List.length_eq_zero_iff.mp hn]
    decide
  | succ n ih =>
    intro hd
    have hne : l ≠ [] := fun z => by rw [z] at hn; cases hn
    obtain ⟨l', d, rfl⟩ : ∃ l' d, l = l' ++ [d] := ⟨l.dropLast, l.getLast hne, (List.dropLast_concat_getLast hne).symm⟩
    rw [List.length_append, List.length_singleton] at hn
    have := ih l' (by omega) fun x hx => hd x (List.mem_append_left _ hx)
    have hdd := hd d (by simp)
    rw [val_snoc, Nat.pow_succ]
    omega
theorem fig_back {y : Str} (h : figB y = true) : Str.ofString (toString ((NumText.digitsVal y.cps.toList : Nat) : Int)) = y ∧ NumText.digitsVal y.cps.toList < 10 ^ 20 := by
  unfold figB at h
  rw [Bool.and_eq_true, Bool.and_eq_true, Bool.and_eq_true, decide_eq_true_eq, decide_eq_true_eq] at h
  obtain ⟨⟨h1, h2⟩, h3, h4⟩ := h
  have hd : ∀ d ∈ y.cps.toList, 48 ≤ d ∧ d ≤ 57 := fun d hd => isIn_dig (List.all_eq_true.mp h3 d hd)
  have lc := len_cps y
  refine ⟨?_, Nat.lt_of_lt_of_le (val_lt _ hd) (Nat.pow_le_pow_right (by decide) (by omega))⟩
  rw [SX.num_S]
  refine TL.ext_tl ?_
  show TL.numL _ = _
  refine numL_back _ _ rfl hd (fun z => by rw [z, List.length_nil] at lc; omega) ?_
  rw [Bool.or_eq_true, decide_eq_true_eq, Bool.not_eq_true', decide_eq_false_iff_not] at h4
  rcases h4 with h4 | h4
  · left
    rw [h4]
    decide +kernel
  · exact .inr h4
theorem neg_text (m : Nat) (h : m ≠ 0) : Str.ofString (toString (-((m : Nat) : Int))) = "-" ++ Str.ofString (toString ((m : Nat) : Int)) := by
  obtain ⟨k, rfl⟩ : ∃ k, m = k + 1 := ⟨m - 1, by omega⟩
  have e : toString (-(((k + 1 : Nat)) : Int)) = "-" ++ toString (((k + 1 : Nat)) : Int) := rfl
  rw [e]
  refine TL.ext_tl ?_
  rw [TL.tl_append]
  show (Str.ofString _).cps.toList = (Str.ofString _).cps.toList ++ (Str.ofString _).cps.toList
  rw [Str.ofString_eq_toList, Str.ofString_eq_toList, Str.ofString_eq_toList]
  simp
theorem num_back {b : Str} {n : Int} (h : numT b = some n) : Str.ofString (toString n) = b ∧ n.natAbs < 10 ^ 20 := by
  unfold numT at h
  split at h
  · rename_i hm
    cases hf : figT (tailS b) with
    | none => rw [hf] at h; cases h
    | some m =>
      rw [hf] at h
      have h : (if m = 0 then none else some (-m)) = some n := h
      split at h
      · cases h
      · rename_i hm0
        cases h
        unfold figT at hf
        split at hf
        · rename_i hb
          cases hf
          obtain ⟨e1, e2⟩ := fig_back hb
          refine ⟨?_, by rw [Int.natAbs_neg]; exact e2⟩
          rw [neg_text _ (fun z => hm0 (by rw [z]; rfl)), e1]
          refine TL.ext_tl ?_
          rw [TL.tl_append]
          show ("-" : Str).cps.toList ++ b.cps.toList.drop 1 = b.cps.toList
          rw [show ("-" : Str).cps.toList = [45] from by decide +kernel]
          cases hb2 : b.cps.toList with
          | nil => rw [hb2] at hm; cases hm
          | cons c r =>
            rw [hb2] at hm
            cases hm
            rfl
        · cases hf
  · unfold figT at h
    split at h
    · rename_i hb
      cases h
      exact fig_back hb
    · cases h
end Law
set_option Elab.async false
set_option linter.all false
set_option maxRecDepth 100000
set_option maxHeartbeats 1000000
namespace Law
open PySem PySem.Spec PyProof.Rows L2 Cor CwR
abbrev sWRead : Stmt := inClass (topS 31) 3
theorem scWRead : FnScope ["text", "found"] ["text"] (defScope sWRead) := ⟨rfl, rfl, rfl, by decide +kernel, rfl, by decide +kernel, by decide +kernel⟩
def wordsW (x : Str) : List Str := Txt.split (Txt.replace x ")" " )") " "
/-- the worth of a text -/
def readT (x : Str) : Option Tr := match prs (wordsW x) 13 0 with
  | some (t, _) => if sndE t 0 (leftB t) = true ∧ txt t = x then some t else none
  | none => none
theorem fig_small {x : Str} {n : Int} (h : figT x = some n) : 0 ≤ n ∧ n.natAbs < 10 ^ 20 ∧ Str.ofString (toString n) = x := by
  unfold figT at h
  by_cases hb : figB x = true
  · rw [if_pos hb] at h
    obtain ⟨h1, h2⟩ := fig_back hb
    cases h
    exact ⟨by omega, by rw [Int.natAbs_natCast]; exact h2, h1⟩
  · rw [if_neg hb] at h
    cases h
theorem num_small {x : Str} {n : Int} (h : numT x = some n) : n.natAbs < 10 ^ 20 := by
  unfold numT at h
  split at h
  · cases e : figT (tailS x) with
    | none => rw [e] at h; cases h
    | some m =>
      rw [e] at h
      simp only at h
      split at h
      · cases h
      · cases h
        have := (fig_small e).2.1
        rw [Int.natAbs_neg]
        exact this
  · exact (fig_small h).2.1
theorem log_small {n : Int} (h : n.natAbs < 10 ^ 20) : n.natAbs.log2 < 1920 := by
  by_cases e : n.natAbs = 0
  · rw [e]; decide
  · have := (Nat.log2_lt e).mpr (Nat.lt_trans h (show 10 ^ 20 < 2 ^ 67 from by decide))
    omega
theorem prs_sm {ws : List Str} : ∀ {f i : Nat} {t : Tr} {j : Nat}, prs ws f i = some (t, j) → Sm t
  | 0, i, t, j, h => by cases h
  | f + 1, i, t, j, h => by
    unfold prs at h
    cases e : ws[i]? with
    | none => rw [e] at h; cases h
    | some w =>
      rw [e] at h
      simp only at h
      by_cases ho : isOpen w = true
      · rw [if_pos ho] at h
        cases ef : figT (tailS w) with
        | none => rw [ef] at h; cases h
        | some n =>
          rw [ef] at h
          simp only at h
          by_cases hn : n = 0
          · rw [if_pos hn] at h; cases h
          rw [if_neg hn] at h
          by_cases hq : ws[i + 1]? = some ("?" : Str)
          · rw [if_pos hq] at h
            cases e1 : prs ws f (i + 2) with
            | none => rw [e1] at h; cases h
            | some p =>
              obtain ⟨y, j1⟩ := p
              rw [e1] at h
              simp only at h
              by_cases hc : ws[j1]? = some (":" : Str)
              · rw [if_pos hc] at h
                cases e2 : prs ws f (j1 + 1) with
                | none => rw [e2] at h; cases h
                | some p =>
                  obtain ⟨o, j2⟩ := p
                  rw [e2] at h
                  simp only at h
                  by_cases hd : ws[j2]? = some (")" : Str)
                  · rw [if_pos hd] at h
                    cases h
                    exact ⟨log_small (fig_small ef).2.1, prs_sm e1, prs_sm e2⟩
                  · rw [if_neg hd] at h; cases h
              · rw [if_neg hc] at h; cases h
          · rw [if_neg hq] at h; cases h
      · rw [if_neg ho] at h
        unfold leafT at h
        split at h
        · cases h; exact True.intro
        · split at h
          · cases h; exact True.intro
          · cases en : numT w with
            | none => rw [en] at h; cases h
            | some n =>
              rw [en] at h
              cases h
              exact log_small (num_small en)
theorem words_ok {x : Str} (ha : A7 x) (hl : x.length ≤ 1000000) : (∀ w ∈ wordsW x, w.length ≤ 14000000 ∧ PyData.canLay0 (.str w) = true) ∧ (wordsW x).length ≤ 10000000 := by
  have hl2 := close_len x
  refine ⟨fun w hw => ?_, ?_⟩
  · obtain ⟨h1, h2, _⟩ := split_mem one_blank hw
    exact ⟨by omega, canLay_a7 fun c hc => close_a7 ha c (h2 c hc)⟩
  · have := split_count one_blank (Txt.replace x ")" " )")
    show (Txt.split (Txt.replace x ")" " )") " ").length ≤ _
    omega
def spRead (C : Addr) : Sp := fun vs H Q _ => ∃ (x : Str) (t : Tr), vs = [.str x] ∧ A7 x ∧ x.length ≤ 1000000 ∧ readT x = some t ∧ NewW C H t Q
def spReadX (CN : Addr) : Sp := fun vs H _ E => ∃ x : Str, vs = [.str x] ∧ A7 x ∧ x.length ≤ 1000000 ∧ readT x = none ∧ Outs CN H (.str x) E
section
variable {P : Program} {w : World} {K : PySem.W.Frag} {mg : Str → Option Value} {base : Heap} {C CN : Addr}
theorem ok_wRead {f : Addr} {fd : FuncData} (F : Fun K "read" "Worth.read" sWRead f fd) (W : WMk P w K mg base C) (dp : Df P w K mg base "parsed" 18 ["words", "at", "deep"] (spParsed 13)) (ds : Df P w K mg base "is_sound" 16 ["tree", "least", "is_truth"] (spSound 14)) (dl : Df P w K mg base "is_truth_tree" 16 ["tree"] (spTruthL 14))
    (dx : Df P w K mg base "tree_text" 15 ["tree"] (spText 13)) : FnOk P w K mg base CX0 24 f fd ["text"] (spRead C) := by
  refine okT F scWRead (k := 23) (by decide +kernel) (by decide) (fun vs H Q E h => ?_) (fun cdv A outer s H vs Q E hr h => ?_)
  · obtain ⟨x, t, rfl, _⟩ := h
    rfl
  · obtain ⟨x, t, rfl, ha, hl, hrd, q⟩ := h
    refine ⟨_, (psst_cons (pst_set (i := 1) scWRead.nd rfl (Or.inl rfl) (pet_df dp (hr.mono (by omega)) (by rfl) (pat_cons (pet_split (pet_replC (pv 0)) pe_str) (pat_cons (CwR.PET.of pe_int) (pat_cons (CwR.PET.of pe_int) pat_nil)))))
      (psst_cons (PST.of (ps_if (PW.pt (pw_or (pt_cmp (pc_isN (pv 1)) rfl) (pw_or (pt_not (pt_val (pe_df (E := E0) ds (hr.mono (by omega)) (by rfl) (pa_cons (pe_ix ix_tup (pv 1) pe_int (fun _ _ => rfl)) (pa_cons pe_int (pa_cons (pe_df (E := E0) dl (hr.mono (by omega)) (by rfl) (pa_cons (pe_ix ix_tup (pv 1) pe_int (fun _ _ => rfl)) pa_nil)) pa_nil)))))) (pw_or1 (pt_cmpR op_ne (pe_df (E := E0) dx (hr.mono (by omega)) (by rfl) (pa_cons (pe_ix ix_tup (pv 1) pe_int (fun _ _ => rfl)) pa_nil)) (pv 0) (nomark _)))))) (pss_one ps_never) pss_nil))
      (psst_cons (PST.of (ps_ret (pe_newW W (hr.mono (by omega)) (by rfl) (pe_ix ix_tup (pv 1) pe_int (fun _ _ => rfl)))))
      psst_nil))), ?_⟩
    have e2 : (" )" : Str).length = 2 := by decide +kernel
    have hl2 := close_len x
    obtain ⟨ok1, ok2⟩ := words_ok ha hl
    refine ⟨_, rfl, x, rfl, by rw [e2]; omega, ⟨_, rfl⟩, _, _, rfl, rfl, by decide +kernel, by rw [sizeLine_eq]; omega, fun p np => ?_⟩
    have s1 := same_upd (o := .lst ((wordsW x).map V.str)) np
    refine ⟨p, wordsW x, 0, rfl, by decide, upd_same, ok1, ok2, fun H1 s2 => ⟨fun en => ?_, fun t1 j p1 v1 e1 et1 hv1 => ?_⟩⟩
    · unfold readT at hrd
      rw [en] at hrd
      cases hrd
    unfold readT at hrd
    rw [e1] at hrd
    simp only at hrd
    by_cases hc : sndE t1 0 (leftB t1) = true ∧ txt t1 = x
    · rw [if_pos hc] at hrd
      cases hrd
      have b1 := (prs_bound e1).2.2
      have sH1 : Same H H1 := fun b o z => s2 b o (s1 b o z)
      refine ⟨_, rfl, _, rfl, iteF ?_⟩
      refine ⟨_, rfl, p1, _, _, _, rfl, rfl, SqT.of et1, rfl, _, rfl, p1, _, _, _, rfl, rfl, SqT.of et1, rfl, v1, t, rfl, hv1, by omega, v1, t, 0, leftB t, rfl, hv1, by omega, by decide, _, rfl, ?_⟩
      rw [hc.1]
      refine iteF ?_
      refine ⟨_, rfl, p1, _, _, _, rfl, rfl, SqT.of et1, rfl, v1, t, rfl, hv1, by omega, by omega, prs_sm e1, _, rfl, rfl, _, rfl, ?_⟩
      rw [hc.2]
      refine ite2 (fun hb => ?_) (fun _ => ?_)
      · rw [decide_eq_true rfl] at hb
        cases hb
      refine ⟨_, rfl, p1, _, _, _, rfl, rfl, SqT.of et1, rfl, ?_⟩
      exact fun a H' s' na ⟨dx, h⟩ => q a H' (fun b o z => s' b o (sH1 b o z)) (by
        cases hz : H a with
        | none => rfl
        | some o => rw [sH1 _ _ hz] at na; cases na) ⟨dx, v1, h, hv1.same s'⟩
    · rw [if_neg hc] at hrd
      cases hrd
theorem ok_wReadX {f : Addr} {fd : FuncData} (F : Fun K "read" "Worth.read" sWRead f fd) (W : WMk P w K mg base C) (nw : Xcl P w K mg base "NoWorth" CN "value") (dp : Df P w K mg base "parsed" 18 ["words", "at", "deep"] (spParsed 13)) (ds : Df P w K mg base "is_sound" 16 ["tree", "least", "is_truth"] (spSound 14)) (dl : Df P w K mg base "is_truth_tree" 16 ["tree"] (spTruthL 14))
    (dx : Df P w K mg base "tree_text" 15 ["tree"] (spText 13)) : FnOk P w K mg base (L2.CX P w) 24 f fd ["text"] (spReadX CN) := by
  refine okTX F scWRead (k := 23) (by decide +kernel) (by decide) (fun vs H Q E h => ?_) (fun cdv A outer s H vs Q E hr h => ?_)
  · obtain ⟨x, rfl, _⟩ := h
    rfl
  · obtain ⟨x, rfl, ha, hl, hrd, q⟩ := h
    have tk : Takes (cxOf (L2.CX P w) P w K mg base ["text", "found"] "Worth.read" (defScope sWRead) f cdv A outer s H E) (fun cls d _ H' => E cls d H') := takes_of rfl rfl rfl rfl
    refine ⟨_, (psst_cons (pst_set (i := 1) scWRead.nd rfl (Or.inl rfl) (pet_df dp (hr.mono (by omega)) (by rfl) (pat_cons (pet_split (pet_replC (pv 0)) pe_str) (pat_cons (CwR.PET.of pe_int) (pat_cons (CwR.PET.of pe_int) pat_nil)))))
      (psst_cons (PST.of (ps_if (PW.pt (pw_or (pt_cmp (pc_isN (pv 1)) rfl) (pw_or (pt_not (pt_val (pe_df (E := E0) ds (hr.mono (by omega)) (by rfl) (pa_cons (pe_ix ix_tup (pv 1) pe_int (fun _ _ => rfl)) (pa_cons pe_int (pa_cons (pe_df (E := E0) dl (hr.mono (by omega)) (by rfl) (pa_cons (pe_ix ix_tup (pv 1) pe_int (fun _ _ => rfl)) pa_nil)) pa_nil)))))) (pw_or1 (pt_cmpR op_ne (pe_df (E := E0) dx (hr.mono (by omega)) (by rfl) (pa_cons (pe_ix ix_tup (pv 1) pe_int (fun _ _ => rfl)) pa_nil)) (pv 0) (nomark _)))))) (pss_one (ps_raise rfl tk (pmk_x nw (hr.mono (by omega)) (by rfl) (pv 0)))) pss_nil))
      (psst_cons (PST.of ps_never)
      psst_nil))), ?_⟩
    have e2 : (" )" : Str).length = 2 := by decide +kernel
    have hl2 := close_len x
    obtain ⟨ok1, ok2⟩ := words_ok ha hl
    refine ⟨_, rfl, x, rfl, by rw [e2]; omega, ⟨_, rfl⟩, _, _, rfl, rfl, by decide +kernel, by rw [sizeLine_eq]; omega, fun p np => ?_⟩
    have s1 := same_upd (o := .lst ((wordsW x).map V.str)) np
    refine ⟨p, wordsW x, 0, rfl, by decide, upd_same, ok1, ok2, fun H1 s2 => ⟨fun en => ?_, fun t1 j p1 v1 e1 et1 hv1 => ?_⟩⟩
    · have sH1 : Same H H1 := fun b o z => s2 b o (s1 b o z)
      refine ⟨_, rfl, _, rfl, iteT (iteT ?_)⟩
      exact ⟨_, rfl, fun d H' s' nd hd => q d H' (fun b o z => s' b o (sH1 b o z)) hd⟩
    unfold readT at hrd
    rw [e1] at hrd
    simp only at hrd
    by_cases hc : sndE t1 0 (leftB t1) = true ∧ txt t1 = x
    · rw [if_pos hc] at hrd
      cases hrd
    have b1 := (prs_bound e1).2.2
    have sH1 : Same H H1 := fun b o z => s2 b o (s1 b o z)
    refine ⟨_, rfl, _, rfl, iteF ?_⟩
    refine ⟨_, rfl, p1, _, _, _, rfl, rfl, SqT.of et1, rfl, _, rfl, p1, _, _, _, rfl, rfl, SqT.of et1, rfl, v1, t1, rfl, hv1, by omega, v1, t1, 0, leftB t1, rfl, hv1, by omega, by decide, _, rfl, ?_⟩
    cases hs : sndE t1 0 (leftB t1) with
    | false => exact iteT (iteT ⟨_, rfl, fun d H' s' nd hd => q d H' (fun b o z => s' b o (sH1 b o z)) hd⟩)
    | true =>
      refine iteF ?_
      refine ⟨_, rfl, p1, _, _, _, rfl, rfl, SqT.of et1, rfl, v1, t1, rfl, hv1, by omega, by omega, prs_sm e1, _, rfl, rfl, _, rfl, ?_⟩
      have ne : ¬ txt t1 = x := fun z => hc ⟨hs, z⟩
      refine ite2 (fun _ => ?_) (fun hb => ?_)
      · exact ⟨_, rfl, fun d H' s' nd hd => q d H' (fun b o z => s' b o (sH1 b o z)) hd⟩
      · rw [decide_eq_false fun z => ne (V.str.inj z)] at hb
        exact absurd rfl hb
end
end Law
set_option Elab.async false
set_option linter.all false
set_option maxRecDepth 100000
set_option maxHeartbeats 1000000
namespace Law
open PySem PySem.Spec PyProof.Rows L2 Cor
def num8 (n : Int) : Str := Str.ofString (toString n)
theorem numL_head : ∀ (n : Nat), n ≠ 0 → (TL.numL n).head? ≠ some 48 := by
  intro n
  induction n using Nat.strongRecOn with
  | ind n ih =>
    intro h0
    by_cases h : n < 10
    · rw [TL.numL_lt h]
      intro z
      have := Option.some.inj z
      omega
    · rw [TL.numL_step (by omega)]
      have hne := TL.numL_ne (n / 10)
      cases hl : TL.numL (n / 10) with
      | nil => exact absurd hl hne
      | cons c r =>
        have := ih (n / 10) (by omega) (by omega)
        rw [hl] at this
        exact this
theorem dig_in {c : Nat} (h : 48 ≤ c ∧ c ≤ 57) : isIn digS c = true := by
  have : ∀ k : Fin 10, isIn digS (48 + (k : Nat)) = true := by decide +kernel
  have := this ⟨c - 48, by omega⟩
  rwa [show 48 + (c - 48) = c by omega] at this
theorem num_cps (m : Nat) : (Str.ofString (toString ((m : Nat) : Int))).cps.toList = TL.numL m := TL.tl_num m
theorem numL_dig (m : Nat) : ∀ c ∈ TL.numL m, 48 ≤ c ∧ c ≤ 57 := fun c hc => TL.numL_digits m c hc
theorem fig_num {m : Nat} (h : m < 10 ^ 20) : figT (Str.ofString (toString ((m : Nat) : Int))) = some ((m : Nat) : Int) := by
  have e := num_cps m
  have hl := TL.numL_len (by decide : 0 < 20) h
  have hlen : (Str.ofString (toString ((m : Nat) : Int))).length = (TL.numL m).length := by rw [← len_cps, e]
  have hpos := List.length_pos_iff.mpr (TL.numL_ne m)
  have hb : figB (Str.ofString (toString ((m : Nat) : Int))) = true := by
    unfold figB
    rw [Bool.and_eq_true, Bool.and_eq_true, Bool.and_eq_true, decide_eq_true_eq, decide_eq_true_eq]
    refine ⟨⟨by omega, by omega⟩, ?_, ?_⟩
    · rw [e]
      exact List.all_eq_true.mpr fun c hc => dig_in (numL_dig m c hc)
    · rw [Bool.or_eq_true, decide_eq_true_eq, Bool.not_eq_true', decide_eq_false_iff_not]
      by_cases h0 : m = 0
      · left
        rw [h0]
        decide +kernel
      · right
        rw [e]
        exact numL_head m h0
  unfold figT
  rw [if_pos hb, e, TL.numL_val]
theorem big_num {n : Int} (h : n.natAbs < 10 ^ 20) : numT (num8 n) = some n ∧ (num8 n).length ≤ 21 ∧ ∀ c ∈ (num8 n).cps.toList, 45 ≤ c ∧ c ≤ 57 ∧ c ≠ 47 := by
  unfold num8
  rcases Int.natAbs_eq n with e | e
  · generalize n.natAbs = m at h e
    subst e
    have hl := TL.numL_len (by decide : 0 < 20) h
    refine ⟨?_, ?_, fun c hc => ?_⟩
    · unfold numT
      rw [num_cps, if_neg]
      · exact fig_num h
      · intro z
        have hm : (45 : Nat) ∈ TL.numL m := List.mem_of_head? z
        have := numL_dig m 45 hm
        omega
    · rw [← len_cps, num_cps]
      omega
    · rw [num_cps] at hc
      have := numL_dig m c hc
      omega
  · generalize n.natAbs = m at h e
    subst e
    have hl := TL.numL_len (by decide : 0 < 20) h
    by_cases h0 : m = 0
    · subst h0
      refine ⟨by decide +kernel, by decide +kernel, ?_⟩
      decide +kernel
    · have hc1 : (Str.ofString (toString (-((m : Nat) : Int)))).cps.toList = 45 :: TL.numL m := by
        rw [neg_text m h0]
        have : ("-" ++ Str.ofString (toString ((m : Nat) : Int)) : Str).cps.toList = ("-" : Str).cps.toList ++ (Str.ofString (toString ((m : Nat) : Int))).cps.toList := by rw [Str.cps_append, Array.toList_append]
        rw [this, num_cps, show ("-" : Str).cps.toList = [45] from by decide +kernel]
        rfl
      refine ⟨?_, ?_, fun c hc => ?_⟩
      · unfold numT
        rw [hc1, if_pos (show (45 :: TL.numL m).head? = some 45 from rfl)]
        have ht : tailS (Str.ofString (toString (-((m : Nat) : Int)))) = Str.ofString (toString ((m : Nat) : Int)) := by
          refine TL.ext_tl ?_
          show (tailS _).cps.toList = (Str.ofString _).cps.toList
          unfold tailS
          rw [hc1, num_cps]
          rfl
        rw [ht, fig_num h]
        show (if ((m : Nat) : Int) = 0 then none else some (-((m : Nat) : Int))) = _
        rw [if_neg (by omega)]
      · rw [← len_cps, hc1, List.length_cons]
        omega
      · rw [hc1] at hc
        rcases List.mem_cons.mp hc with hc | hc
        · omega
        · have := numL_dig m c hc
          omega
def lfT (l : Lf) : Str := txt (.lf l)
/-- the words that the program sees -/
def progW : Tr → List Str
  | .lf l => [lfT l]
  | .nd n y o => ("(" ++ num8 n : Str) :: ("?" : Str) :: (progW y ++ (":" : Str) :: (progW o ++ [(")" : Str)]))
/-- figures that can be read -/
def Rd : Tr → Prop
  | .lf (.i n) => n.natAbs < 10 ^ 20
  | .lf (.b _) => True
  | .nd n y o => 1 ≤ n ∧ n.natAbs < 10 ^ 20 ∧ Rd y ∧ Rd o
theorem leaf_back {l : Lf} (h : Rd (.lf l)) : leafT (lfT l) = some l ∧ isOpen (lfT l) = false := by
  cases l with
  | b v => cases v <;> exact ⟨by decide +kernel, by decide +kernel⟩
  | i n =>
    obtain ⟨h1, h2, h3⟩ := big_num (show n.natAbs < 10 ^ 20 from h)
    have e : lfT (.i n) = num8 n := rfl
    rw [e]
    refine ⟨?_, ?_⟩
    · unfold leafT
      rw [if_neg, if_neg, h1]
      · rfl
      · intro z
        have := h3 110 (by rw [z]; decide +kernel)
        omega
      · intro z
        have := h3 121 (by rw [z]; decide +kernel)
        omega
    · unfold isOpen
      refine decide_eq_false fun z => ?_
      have := h3 40 (List.mem_of_head? z)
      omega
theorem open_back {n : Int} (h1 : 1 ≤ n) (h : n.natAbs < 10 ^ 20) : isOpen ("(" ++ num8 n) = true ∧ figT (tailS ("(" ++ num8 n)) = some n := by
  have hc : ("(" ++ num8 n : Str).cps.toList = 40 :: (num8 n).cps.toList := by
    have : ("(" ++ num8 n : Str).cps.toList = ("(" : Str).cps.toList ++ (num8 n).cps.toList := by rw [Str.cps_append, Array.toList_append]
    rw [this, show ("(" : Str).cps.toList = [40] from by decide +kernel]
    rfl
  have ht : tailS ("(" ++ num8 n) = num8 n := by
    refine TL.ext_tl ?_
    show (tailS _).cps.toList = (num8 n).cps.toList
    unfold tailS
    rw [hc]
    rfl
  refine ⟨?_, ?_⟩
  · unfold isOpen
    rw [hc]
    rfl
  · rw [ht]
    obtain ⟨m, rfl⟩ : ∃ m : Nat, n = (m : Int) := ⟨n.natAbs, by omega⟩
    exact fig_num (by rw [Int.natAbs_natCast] at h; exact h)
theorem drop_at {ws a b : List Str} {i : Nat} (h : ws.drop i = a ++ b) : ws.drop (i + a.length) = b := by
  rw [← List.drop_drop, h, List.drop_left]
theorem drop_get {ws r : List Str} {x : Str} {i : Nat} (h : ws.drop i = x :: r) : ws[i]? = some x ∧ ws.drop (i + 1) = r := by
  refine ⟨?_, ?_⟩
  · have := congrArg (fun l => l[0]?) h
    simp at this
    exact this
  · rw [← List.drop_drop, h]
    rfl
theorem prs_prog {ws : List Str} : ∀ {t : Tr} {f i : Nat} {r : List Str}, Rd t → t.dep < f → ws.drop i = progW t ++ r → prs ws f i = some (t, i + (progW t).length)
  | t, 0, i, r, _, hd, _ => absurd hd (Nat.not_lt_zero _)
  | .lf l, f + 1, i, r, hr, hd, hw => by
    obtain ⟨e1, _⟩ := drop_get (show ws.drop i = lfT l :: r from hw)
    obtain ⟨h1, h2⟩ := leaf_back hr
    unfold prs
    rw [e1]
    simp only [h2, Bool.false_eq_true, if_false, h1]
    rfl
  | .nd n y o, f + 1, i, r, hr, hd, hw => by
    obtain ⟨hn, hb, hy, ho⟩ := hr
    have hd : max y.dep o.dep + 1 < f + 1 := hd
    obtain ⟨h1, h2⟩ := open_back hn hb
    have hw0 : ws.drop i = ("(" ++ num8 n : Str) :: (("?" : Str) :: (progW y ++ ((":" : Str) :: (progW o ++ ((")" : Str) :: r))))) := by
      rw [hw]
      show (("(" ++ num8 n : Str) :: ("?" : Str) :: (progW y ++ (":" : Str) :: (progW o ++ [(")" : Str)]))) ++ r = _
      simp
    obtain ⟨e1, w1⟩ := drop_get hw0
    obtain ⟨e2, w2⟩ := drop_get w1
    have p1 := prs_prog (f := f) hy (by omega) w2
    have w3 := drop_at w2
    obtain ⟨e3, w4⟩ := drop_get w3
    have p2 := prs_prog (f := f) ho (by omega) w4
    have w5 := drop_at w4
    obtain ⟨e4, _⟩ := drop_get w5
    have ei : i + 1 + 1 = i + 2 := rfl
    rw [ei] at p1 e3 p2 e4
    unfold prs
    rw [e1]
    simp only [h1, if_true, h2, if_neg (show ¬ n = 0 by omega), e2, p1, e3, p2, e4]
    congr 2
    show _ = i + (("(" ++ num8 n : Str) :: ("?" : Str) :: (progW y ++ (":" : Str) :: (progW o ++ [(")" : Str)]))).length
    simp only [List.length_cons, List.length_append, List.length_nil]
    omega
end Law
set_option Elab.async false
set_option linter.all false
set_option maxRecDepth 100000
set_option maxHeartbeats 1000000
namespace Law
open PySem PySem.Spec PyProof.Rows L2 Cor
def fm (l : List Nat) : List Nat := l.flatMap fun d => if d = 41 then [32, 41] else [d]
theorem fm_app (a b : List Nat) : fm (a ++ b) = fm a ++ fm b := by
  unfold fm
  rw [List.flatMap_append]
theorem fm_id {l : List Nat} (h : ∀ d ∈ l, d ≠ 41) : fm l = l := by
  induction l with
  | nil => rfl
  | cons d r ih =>
    show (if d = 41 then [32, 41] else [d]) ++ fm r = d :: r
    rw [if_neg (h d List.mem_cons_self), ih fun x hx => h x (List.mem_cons_of_mem _ hx)]
    rfl
theorem joinL_app (S : List Nat) {as bs : List (List Nat)} (ha : as ≠ []) (hb : bs ≠ []) : TL.joinL S (as ++ bs) = TL.joinL S as ++ (S ++ TL.joinL S bs) := by
  induction as with
  | nil => exact absurd rfl ha
  | cons a r ih =>
    cases r with
    | nil => exact joinL_cons S a hb
    | cons b r =>
      rw [List.cons_append, joinL_cons S a (by simp), ih (by simp), joinL_cons S a (by simp)]
      simp
theorem progW_ne : ∀ t : Tr, progW t ≠ []
  | .lf _ => by unfold progW; simp
  | .nd _ _ _ => by unfold progW; simp
/-- the signs of a text -/
abbrev sg (x : Str) : List Nat := x.cps.toList
theorem sg_app (a b : Str) : sg (a ++ b) = sg a ++ sg b := by
  show (a ++ b).cps.toList = _
  rw [Str.cps_append, Array.toList_append]
theorem sg_open : sg "(" = [40] := by decide +kernel
theorem sg_close : sg ")" = [41] := by decide +kernel
theorem sg_q : sg " ? " = [32, 63, 32] := by decide +kernel
theorem sg_c : sg " : " = [32, 58, 32] := by decide +kernel
theorem sg_q1 : sg "?" = [63] := by decide +kernel
theorem sg_c1 : sg ":" = [58] := by decide +kernel
theorem sg_empty : sg Str.empty = [] := rfl
theorem lf_signs {l : Lf} (h : Rd (.lf l)) : ∀ d ∈ sg (lfT l), d ≠ 41 ∧ d ≠ 32 ∧ d ≠ 40 ∧ d ≠ 10 ∧ d < 128 := by
  cases l with
  | b v => cases v <;> decide +kernel
  | i n =>
    intro d hd
    have := (big_num (show n.natAbs < 10 ^ 20 from h)).2.2 d hd
    omega
theorem num_signs8 {n : Int} (h : n.natAbs < 10 ^ 20) : ∀ d ∈ sg (num8 n), d ≠ 41 ∧ d ≠ 32 ∧ d ≠ 40 ∧ d ≠ 10 ∧ d < 128 := fun d hd => by
  have := (big_num h).2.2 d hd
  omega
theorem sg_txt (n : Int) (y o : Tr) : sg (txt (.nd n y o)) = [40] ++ (sg (num8 n) ++ ([32, 63, 32] ++ (sg (txt y) ++ ([32, 58, 32] ++ (sg (txt o) ++ [41]))))) := by
  show sg (Str.empty ++ "(" ++ Str.ofString (toString n) ++ " ? " ++ txt y ++ " : " ++ txt o ++ ")") = _
  rw [sg_app, sg_app, sg_app, sg_app, sg_app, sg_app, sg_app, sg_open, sg_close, sg_q, sg_c, sg_empty]
  show _ = [40] ++ (sg (Str.ofString (toString n)) ++ _)
  simp only [List.append_assoc, List.nil_append]
theorem fm_txt : ∀ {t : Tr}, Rd t → fm (sg (txt t)) = TL.joinL [32] ((progW t).map sg)
  | .lf l, h => by
    show fm (sg (lfT l)) = sg (lfT l)
    exact fm_id fun d hd => (lf_signs h d hd).1
  | .nd n y o, h => by
    obtain ⟨h1, h2, hy, ho⟩ := h
    have iy := fm_txt hy
    have io := fm_txt ho
    have en := fm_id (l := sg (num8 n)) fun d hd => (num_signs8 h2 d hd).1
    rw [sg_txt, fm_app, fm_app, fm_app, fm_app, fm_app, fm_app, iy, io, en]
    show _ = TL.joinL [32] ((("(" ++ num8 n : Str) :: ("?" : Str) :: (progW y ++ (":" : Str) :: (progW o ++ [(")" : Str)]))).map sg)
    simp only [List.map_cons, List.map_append, List.map_nil]
    have ny : (progW y).map sg ≠ [] := fun z => progW_ne y (List.map_eq_nil_iff.mp z)
    have no : (progW o).map sg ≠ [] := fun z => progW_ne o (List.map_eq_nil_iff.mp z)
    rw [joinL_cons _ _ (by simp), joinL_cons _ _ (by simp), joinL_app _ ny (by simp), joinL_cons _ _ (by simp), joinL_app _ no (by simp), sg_app, sg_open, sg_q1, sg_c1, sg_close]
    show _ = _ ++ ([32] ++ ([63] ++ ([32] ++ (_ ++ ([32] ++ ([58] ++ ([32] ++ (_ ++ ([32] ++ [41])))))))))
    have e1 : fm [40] = [40] := by decide
    have e2 : fm [32, 63, 32] = [32, 63, 32] := by decide
    have e3 : fm [32, 58, 32] = [32, 58, 32] := by decide
    have e4 : fm [41] = [32, 41] := by decide
    rw [e1, e2, e3, e4]
    simp
theorem progW_free : ∀ {t : Tr}, Rd t → ∀ p ∈ progW t, 32 ∉ p.cps.toList
  | .lf l, h, p, hp => by
    rw [List.mem_singleton.mp (show p ∈ [lfT l] from hp)]
    exact fun z => (lf_signs h _ z).2.1 rfl
  | .nd n y o, h, p, hp => by
    obtain ⟨h1, h2, hy, ho⟩ := h
    have hp : p ∈ (("(" ++ num8 n : Str) :: ("?" : Str) :: (progW y ++ (":" : Str) :: (progW o ++ [(")" : Str)]))) := hp
    simp only [List.mem_cons, List.mem_append, List.not_mem_nil, or_false] at hp
    rcases hp with rfl | rfl | hp | rfl | hp | rfl
    · intro z
      have z : 32 ∈ sg ("(" ++ num8 n) := z
      rw [sg_app, sg_open] at z
      rcases List.mem_append.mp z with z | z
      · simp at z
      · exact (num_signs8 h2 _ z).2.1 rfl
    · decide +kernel
    · exact progW_free hy p hp
    · decide +kernel
    · exact progW_free ho p hp
    · decide +kernel
theorem wordsW_txt {t : Tr} (h : Rd t) : wordsW (txt t) = progW t := by
  have e : Txt.replace (txt t) ")" " )" = Txt.join " " (progW t) := by
    refine TL.ext_tl ?_
    show sg (Txt.replace (txt t) ")" " )") = _
    rw [TL.join_eq, TL.tl_join, show TL.tl (" " : Str) = [32] from one_blank.e]
    show (Txt.replace (txt t) ")" " )").cps.toList = _
    rw [close_repl]
    exact fm_txt h
  unfold wordsW
  rw [e]
  exact split_parts one_blank (progW_ne t) (progW_free h)
/-- what is read of a sound tree's text -/
theorem readT_txt {t : Tr} (h : Rd t) (hd : t.dep ≤ 12) (hs : sndE t 0 (leftB t) = true) : readT (txt t) = some t := by
  have e : prs (wordsW (txt t)) 13 0 = some (t, 0 + (progW t).length) := by
    rw [wordsW_txt h]
    exact prs_prog (r := []) h (by omega) (by simp)
  unfold readT
  rw [e]
  simp only [hs, true_and, if_true]
end Law
set_option Elab.async false
set_option linter.all false
set_option maxRecDepth 100000
set_option maxHeartbeats 1000000
namespace Law
open PySem PySem.Spec PyProof.Rows L2 Cor
def go40 (l : List Nat) : List Nat := l.flatMap fun d => if d = 40 then [40, 32] else [d]
theorem go40_app (a b : List Nat) : go40 (a ++ b) = go40 a ++ go40 b := by
  unfold go40
  rw [List.flatMap_append]
theorem go40_id {l : List Nat} (h : ∀ d ∈ l, d ≠ 40) : go40 l = l := by
  induction l with
  | nil => rfl
  | cons d r ih =>
    show (if d = 40 then [40, 32] else [d]) ++ go40 r = d :: r
    rw [if_neg (h d List.mem_cons_self), ih fun x hx => h x (List.mem_cons_of_mem _ hx)]
    rfl
theorem repl2_hit {a b : Nat} {z r : List Nat} : StrLaws.replL [a, b] z (a :: b :: r) = z ++ StrLaws.replL [a, b] z r := by
  show StrLaws.replS [a, b] z 0 (a :: b :: r) = _
  rw [StrLaws.replS, if_pos (show List.take [a, b].length (a :: b :: r) = [a, b] from rfl)]
  show z ++ StrLaws.replS [a, b] z 1 (b :: r) = _
  rw [StrLaws.replS]
  rfl
theorem repl2_no {a b d : Nat} {z r : List Nat} (h : ¬ (d = a ∧ r.head? = some b)) : StrLaws.replL [a, b] z (d :: r) = d :: StrLaws.replL [a, b] z r := by
  show StrLaws.replS [a, b] z 0 (d :: r) = _
  rw [StrLaws.replS, if_neg]
  · rfl
  · intro e
    have e : (d :: r).take 2 = [a, b] := e
    cases r with
    | nil => simp at e
    | cons c r =>
      simp at e
      exact h ⟨e.1, by rw [e.2]; rfl⟩
/-- the opening brackets go back -/
theorem back_open : ∀ l : List Nat, StrLaws.replL [40, 32] [40] (fm (go40 l)) = fm l
  | [] => StrLaws.replL_nil
  | d :: r => by
    have ih := back_open r
    have e1 : go40 (d :: r) = (if d = 40 then [40, 32] else [d]) ++ go40 r := rfl
    have e2 : fm (d :: r) = (if d = 41 then [32, 41] else [d]) ++ fm r := rfl
    rw [e1, fm_app, e2]
    by_cases h : d = 40
    · subst h
      rw [if_pos rfl, if_neg (by decide)]
      have : fm [40, 32] = [40, 32] := by decide
      rw [this]
      show StrLaws.replL [40, 32] [40] (40 :: 32 :: fm (go40 r)) = _
      rw [repl2_hit, ih]
    · rw [if_neg h]
      by_cases h2 : d = 41
      · subst h2
        rw [if_pos rfl]
        have : fm [41] = [32, 41] := by decide
        rw [this]
        show StrLaws.replL [40, 32] [40] (32 :: 41 :: fm (go40 r)) = _
        rw [repl2_no (by rintro ⟨z, _⟩; cases z), repl2_no (by rintro ⟨z, _⟩; cases z), ih]
        rfl
      · rw [if_neg h2]
        have : fm [d] = [d] := fm_id fun x hx => by rw [List.mem_singleton.mp hx]; exact h2
        rw [this]
        show StrLaws.replL [40, 32] [40] (d :: fm (go40 r)) = _
        rw [repl2_no (fun z => h z.1), ih]
        rfl
theorem fm_head {r : List Nat} : (fm r).head? ≠ some 41 := by
  cases r with
  | nil => exact fun z => nomatch z
  | cons d r =>
    have e2 : fm (d :: r) = (if d = 41 then [32, 41] else [d]) ++ fm r := rfl
    rw [e2]
    by_cases h : d = 41
    · rw [if_pos h]
      intro z
      cases z
    · rw [if_neg h]
      intro z
      exact h (Option.some.inj z)
/-- the closing brackets go back -/
theorem back_close : ∀ l : List Nat, StrLaws.replL [32, 41] [41] (fm l) = l
  | [] => StrLaws.replL_nil
  | d :: r => by
    have ih := back_close r
    have e2 : fm (d :: r) = (if d = 41 then [32, 41] else [d]) ++ fm r := rfl
    rw [e2]
    by_cases h : d = 41
    · subst h
      rw [if_pos rfl]
      show StrLaws.replL [32, 41] [41] (32 :: 41 :: fm r) = _
      rw [repl2_hit, ih]
      rfl
    · rw [if_neg h]
      show StrLaws.replL [32, 41] [41] (d :: fm r) = _
      rw [repl2_no (fun z => fm_head z.2), ih]
/-- the text with its brackets apart -/
def apartX (x : Str) : Str := Txt.replace (Txt.replace x "(" "( ") ")" " )"
theorem sg_opb : sg "( " = [40, 32] := by decide +kernel
theorem sg_apart (x : Str) : sg (apartX x) = fm (go40 (sg x)) := by
  show (Txt.replace (Txt.replace x "(" "( ") ")" " )").cps.toList = _
  rw [close_repl]
  show fm (Txt.replace x "(" "( ").cps.toList = _
  rw [StrLaws.replace_list (by decide +kernel), show ("(" : Str).cps.toList = [40] from sg_open, show ("( " : Str).cps.toList = [40, 32] from sg_opb, repl_one]
  rfl
theorem back_apart (x : Str) : Txt.replace (Txt.replace (apartX x) "( " "(") " )" ")" = x := by
  refine TL.ext_tl ?_
  show (Txt.replace (Txt.replace (apartX x) "( " "(") " )" ")").cps.toList = sg x
  rw [StrLaws.replace_list (by decide +kernel), StrLaws.replace_list (by decide +kernel), show ("( " : Str).cps.toList = [40, 32] from sg_opb, show ("(" : Str).cps.toList = [40] from sg_open, show (" )" : Str).cps.toList = [32, 41] from cps_bclose, show (")" : Str).cps.toList = [41] from cps_close,
    show (apartX x).cps.toList = _ from sg_apart x, back_open, back_close]
theorem apart_inj {x y : Str} (h : apartX x = apartX y) : x = y := by rw [← back_apart x, h, back_apart y]
def wordsL (x : Str) : List Str := Txt.split (apartX x) " "
theorem wordsL_back (x : Str) : Txt.join " " (wordsL x) = apartX x := split_back one_blank _
/-- the law's words of a tree -/
def toksL : Tr → List Str
  | .lf l => [lfT l]
  | .nd n y o => ("(" : Str) :: num8 n :: ("?" : Str) :: (toksL y ++ (":" : Str) :: (toksL o ++ [(")" : Str)]))
theorem toksL_ne : ∀ t : Tr, toksL t ≠ []
  | .lf _ => by unfold toksL; simp
  | .nd _ _ _ => by unfold toksL; simp
theorem apart_txt : ∀ {t : Tr}, Rd t → fm (go40 (sg (txt t))) = TL.joinL [32] ((toksL t).map sg)
  | .lf l, h => by
    show fm (go40 (sg (lfT l))) = sg (lfT l)
    rw [go40_id fun d hd => (lf_signs h d hd).2.2.1]
    exact fm_id fun d hd => (lf_signs h d hd).1
  | .nd n y o, h => by
    obtain ⟨h1, h2, hy, ho⟩ := h
    have iy := apart_txt hy
    have io := apart_txt ho
    have en := fm_id (l := sg (num8 n)) fun d hd => (num_signs8 h2 d hd).1
    have en2 := go40_id (l := sg (num8 n)) fun d hd => (num_signs8 h2 d hd).2.2.1
    rw [sg_txt, go40_app, go40_app, go40_app, go40_app, go40_app, go40_app, en2]
    have f1 : go40 [40] = [40, 32] := by decide
    have f2 : go40 [32, 63, 32] = [32, 63, 32] := by decide
    have f3 : go40 [32, 58, 32] = [32, 58, 32] := by decide
    have f4 : go40 [41] = [41] := by decide
    rw [f1, f2, f3, f4, fm_app, fm_app, fm_app, fm_app, fm_app, fm_app, iy, io, en]
    show _ = TL.joinL [32] ((("(" : Str) :: num8 n :: ("?" : Str) :: (toksL y ++ (":" : Str) :: (toksL o ++ [(")" : Str)]))).map sg)
    simp only [List.map_cons, List.map_append, List.map_nil]
    have ny : (toksL y).map sg ≠ [] := fun z => toksL_ne y (List.map_eq_nil_iff.mp z)
    have no : (toksL o).map sg ≠ [] := fun z => toksL_ne o (List.map_eq_nil_iff.mp z)
    rw [joinL_cons _ _ (by simp), joinL_cons _ _ (by simp), joinL_cons _ _ (by simp), joinL_app _ ny (by simp), joinL_cons _ _ (by simp), joinL_app _ no (by simp), sg_open, sg_q1, sg_c1, sg_close]
    show _ = [40] ++ ([32] ++ (_ ++ ([32] ++ ([63] ++ ([32] ++ (_ ++ ([32] ++ ([58] ++ ([32] ++ (_ ++ ([32] ++ [41])))))))))))
    have e1 : fm [40, 32] = [40, 32] := by decide
    have e2 : fm [32, 63, 32] = [32, 63, 32] := by decide
    have e3 : fm [32, 58, 32] = [32, 58, 32] := by decide
    have e4 : fm [41] = [32, 41] := by decide
    rw [e1, e2, e3, e4]
    simp
theorem toksL_free : ∀ {t : Tr}, Rd t → ∀ p ∈ toksL t, 32 ∉ p.cps.toList ∧ p ≠ "" ∧ 10 ∉ p.cps.toList
  | .lf l, h, p, hp => by
    rw [List.mem_singleton.mp (show p ∈ [lfT l] from hp)]
    refine ⟨fun z => (lf_signs h _ z).2.1 rfl, fun z => ?_, fun z => (lf_signs h _ z).2.2.2.1 rfl⟩
    obtain ⟨h1, _⟩ := leaf_back h
    rw [z] at h1
    have : leafT "" = none := by decide +kernel
    rw [this] at h1
    cases h1
  | .nd n y o, h, p, hp => by
    obtain ⟨h1, h2, hy, ho⟩ := h
    have hp : p ∈ (("(" : Str) :: num8 n :: ("?" : Str) :: (toksL y ++ (":" : Str) :: (toksL o ++ [(")" : Str)]))) := hp
    simp only [List.mem_cons, List.mem_append, List.not_mem_nil, or_false] at hp
    rcases hp with rfl | rfl | rfl | hp | rfl | hp | rfl
    · decide +kernel
    · refine ⟨fun z => (num_signs8 h2 _ z).2.1 rfl, fun z => ?_, fun z => (num_signs8 h2 _ z).2.2.2.1 rfl⟩
      have := (big_num h2).1
      rw [z] at this
      have e : numT "" = none := by decide +kernel
      rw [e] at this
      cases this
    · decide +kernel
    · exact toksL_free hy p hp
    · decide +kernel
    · exact toksL_free ho p hp
    · decide +kernel
theorem apart_toks {t : Tr} (h : Rd t) : apartX (txt t) = Txt.join " " (toksL t) := by
  refine TL.ext_tl ?_
  show sg (apartX (txt t)) = _
  rw [TL.join_eq, TL.tl_join, show TL.tl (" " : Str) = [32] from one_blank.e, sg_apart]
  exact apart_txt h
theorem wordsL_txt {t : Tr} (h : Rd t) : wordsL (txt t) = toksL t := by
  unfold wordsL
  rw [apart_toks h]
  exact split_parts one_blank (toksL_ne t) fun p hp => (toksL_free h p hp).1
/-- a text whose words are those of a tree is the tree's -/
theorem txt_of_words {x : Str} {t : Tr} (h : Rd t) (e : wordsL x = toksL t) : x = txt t := by
  refine apart_inj ?_
  rw [← wordsL_back x, e, apart_toks h]
end Law
set_option Elab.async false
set_option linter.all false
set_option maxRecDepth 100000
set_option maxHeartbeats 1000000
namespace Law
open PySem PySem.Spec PyProof.Rows L2 Cor
/-- what the law may put together -/
inductive RT where
  | lf (l : Lf)
  | st (s : Str)
  | nd (n : Int) (y o : RT)
def emb : Tr → RT
  | .lf l => .lf l
  | .nd n y o => .nd n (emb y) (emb o)
/-- what lies on the stack -/
inductive SV where
  | w (s : Str)
  | n
  | t (r : RT)
def itemOf (w : Str) : SV := if w = "(" ∨ w = "?" ∨ w = ":" then .w w else match leafT w with
  | some l => .t (.lf l)
  | none => .n
def asRT : SV → Option RT
  | .w s => some (.st s)
  | .n => none
  | .t r => some r
def numOf : SV → Option Int
  | .t (.lf (.i n)) => if 1 ≤ n then some n else none
  | _ => none
def isW (s : Str) : SV → Bool
  | .w x => decide (x = s)
  | _ => false
/-- the last six are put together -/
def foldL : List SV → Option RT
  | [a, n, b, y, c, o] => if (isW "(" a && isW "?" b && isW ":" c) = true then (match numOf n, asRT y, asRT o with
      | some n, some y, some o => some (.nd n y o)
      | _, _, _ => none) else none
  | _ => none
def stepL (S : List SV) (w : Str) : Option (List SV) := if w ≠ ")" then some (S ++ [itemOf w]) else (foldL (S.drop (S.length - 6))).map fun r => S.take (S.length - 6) ++ [.t r]
def runL : List SV → List Str → Option (List SV)
  | S, [] => some S
  | S, w :: r => match stepL S w with
    | some S' => runL S' r
    | none => none
def lawT (x : Str) : Option RT := if ("" : Str) ∈ wordsL x ∨ 10 ∈ sg x then none else match runL [] (wordsL x) with
  | some [.t r] => some r
  | _ => none
theorem stepL_item {S : List SV} {w : Str} (h : w ≠ ")") : stepL S w = some (S ++ [itemOf w]) := by
  unfold stepL
  rw [if_pos h]
theorem stepL_fold {S : List SV} {l : List SV} {r : RT} (h6 : l.length = 6) (h : foldL l = some r) : stepL (S ++ l) ")" = some (S ++ [.t r]) := by
  unfold stepL
  rw [if_neg (by decide), List.length_append, h6, Nat.add_sub_cancel, List.drop_left, List.take_left, h]
  rfl
theorem item_leaf {l : Lf} (h : Rd (.lf l)) : itemOf (lfT l) = .t (.lf l) ∧ lfT l ≠ ")" := by
  obtain ⟨h1, _⟩ := leaf_back h
  have ne : ∀ s : Str, leafT s = none → lfT l ≠ s := fun s hs z => by
    rw [z, hs] at h1
    cases h1
  refine ⟨?_, ne _ (by decide +kernel)⟩
  unfold itemOf
  rw [if_neg (fun z => z.elim (ne _ (by decide +kernel)) fun z => z.elim (ne _ (by decide +kernel)) (ne _ (by decide +kernel))), h1]
theorem run_toks : ∀ {t : Tr} {S : List SV} {r : List Str}, Rd t → runL S (toksL t ++ r) = runL (S ++ [.t (emb t)]) r
  | .lf l, S, r, h => by
    obtain ⟨h1, h2⟩ := item_leaf h
    show (match stepL S (lfT l) with
      | some S' => runL S' r
      | none => none) = _
    rw [stepL_item h2, h1]
    rfl
  | .nd n y o, S, r, h => by
    obtain ⟨h1, h2, hy, ho⟩ := h
    obtain ⟨i1, i2⟩ := item_leaf (l := .i n) h2
    have e : toksL (.nd n y o) ++ r = ("(" : Str) :: lfT (.i n) :: ("?" : Str) :: (toksL y ++ ((":" : Str) :: (toksL o ++ ((")" : Str) :: r)))) := by
      show (("(" : Str) :: num8 n :: ("?" : Str) :: (toksL y ++ (":" : Str) :: (toksL o ++ [(")" : Str)]))) ++ r = _
      simp
      rfl
    have step : ∀ (S : List SV) (w : Str) (r : List Str), w ≠ ")" → runL S (w :: r) = runL (S ++ [itemOf w]) r := fun S w r hw => by
      show (match stepL S w with
        | some S' => runL S' r
        | none => none) = _
      rw [stepL_item hw]
    rw [e, step _ _ _ (by decide), step _ _ _ i2, step _ _ _ (by decide), run_toks hy, step _ _ _ (by decide), run_toks ho, i1]
    have w1 : itemOf "(" = .w "(" := if_pos (.inl rfl)
    have w2 : itemOf "?" = .w "?" := if_pos (.inr (.inl rfl))
    have w3 : itemOf ":" = .w ":" := if_pos (.inr (.inr rfl))
    rw [w1, w2, w3]
    have eS : S ++ [SV.w "("] ++ [SV.t (.lf (.i n))] ++ [SV.w "?"] ++ [SV.t (emb y)] ++ [SV.w ":"] ++ [SV.t (emb o)] = S ++ [SV.w "(", .t (.lf (.i n)), .w "?", .t (emb y), .w ":", .t (emb o)] := by simp
    rw [eS]
    show (match stepL (S ++ [SV.w "(", .t (.lf (.i n)), .w "?", .t (emb y), .w ":", .t (emb o)]) ")" with
      | some S' => runL S' r
      | none => none) = _
    rw [stepL_fold (r := .nd n (emb y) (emb o)) rfl]
    · rfl
    · show (if (isW "(" (.w "(") && isW "?" (.w "?") && isW ":" (.w ":")) = true then _ else none) = _
      rw [if_pos (by decide +kernel)]
      show (match (if 1 ≤ n then some n else none), some (emb y), some (emb o) with
        | some n, some y, some o => some (RT.nd n y o)
        | _, _, _ => none) = _
      rw [if_pos h1]
theorem lawT_txt {t : Tr} (h : Rd t) (hn : 10 ∉ sg (txt t)) : lawT (txt t) = some (emb t) := by
  have e := run_toks (S := []) (r := []) h
  rw [List.append_nil] at e
  unfold lawT
  rw [wordsL_txt h, if_neg, e]
  · rfl
  · rintro (z | z)
    · exact (toksL_free h _ z).2.1 rfl
    · exact hn z
theorem txt_nonl : ∀ {t : Tr}, Rd t → 10 ∉ sg (txt t)
  | .lf l, h, z => (lf_signs h _ z).2.2.2.1 rfl
  | .nd n y o, h, z => by
    obtain ⟨h1, h2, hy, ho⟩ := h
    rw [sg_txt] at z
    simp only [List.mem_append, List.mem_cons, List.not_mem_nil, or_false] at z
    rcases z with z | z | z | z | z | z | z
    · cases z
    · exact (num_signs8 h2 _ z).2.2.2.1 rfl
    · rcases z with z | z | z <;> cases z
    · exact txt_nonl hy z
    · rcases z with z | z | z <;> cases z
    · exact txt_nonl ho z
    · cases z
/-- from these words came this item; asked only of what is a tree -/
def From : SV → List Str → Prop
  | .w s, V => V = [s]
  | .n, _ => True
  | .t r, V => ∀ t, r = emb t → V = toksL t ∧ Rd t
inductive Prov : List SV → List Str → Prop
  | nil : Prov [] []
  | snoc {S : List SV} {W : List Str} {i : SV} {V : List Str} : Prov S W → From i V → Prov (S ++ [i]) (W ++ V)
theorem prov_last {L : List SV} {W : List Str} (h : Prov L W) : ∀ {S : List SV} {i : SV}, L = S ++ [i] → ∃ W' V, W = W' ++ V ∧ Prov S W' ∧ From i V := by
  cases h with
  | nil => intro S i e; simp at e
  | snoc h1 h2 =>
    intro S i e
    obtain ⟨e1, e2⟩ := List.append_inj' e rfl
    cases e1
    cases (List.cons.inj e2).1
    exact ⟨_, _, rfl, h1, h2⟩
theorem from_item (w : Str) : From (itemOf w) [w] := by
  unfold itemOf
  by_cases h : w = "(" ∨ w = "?" ∨ w = ":"
  · rw [if_pos h]
    rfl
  · rw [if_neg h]
    cases e : leafT w with
    | none => trivial
    | some l =>
      intro t et
      cases t with
      | nd n y o => cases et
      | lf l' =>
        cases et
        unfold leafT at e
        split at e
        · rename_i hw
          cases e
          exact ⟨by rw [hw]; rfl, trivial⟩
        · split at e
          · rename_i hw
            cases e
            exact ⟨by rw [hw]; rfl, trivial⟩
          · cases en : numT w with
            | none => rw [en] at e; cases e
            | some n =>
              rw [en] at e
              cases e
              obtain ⟨h1, h2⟩ := num_back en
              exact ⟨by rw [← h1]; rfl, h2⟩
theorem isW_of {s : Str} {i : SV} (h : isW s i = true) : i = .w s := by
  cases i with
  | w x => rw [of_decide_eq_true h]
  | n => cases h
  | t r => cases h
theorem foldL_of {l : List SV} {r : RT} (h : foldL l = some r) : ∃ a b c n y o, l = [.w "(", a, .w "?", b, .w ":", c] ∧ numOf a = some n ∧ asRT b = some y ∧ asRT c = some o ∧ r = .nd n y o := by
  unfold foldL at h
  split at h
  · rename_i a n b y c o
    split at h
    · rename_i hw
      rw [Bool.and_eq_true, Bool.and_eq_true] at hw
      obtain ⟨⟨w1, w2⟩, w3⟩ := hw
      split at h
      · rename_i n' y' o' h1 h2 h3
        cases h
        rw [isW_of w1, isW_of w2, isW_of w3]
        exact ⟨_, _, _, _, _, _, rfl, h1, h2, h3, rfl⟩
      · cases h
    · cases h
  · cases h
theorem numOf_of {a : SV} {n : Int} (h : numOf a = some n) : a = .t (.lf (.i n)) ∧ 1 ≤ n := by
  unfold numOf at h
  split at h
  · split at h
    · rename_i hn
      cases h
      exact ⟨rfl, hn⟩
    · cases h
  · cases h
theorem asRT_emb {b : SV} {t : Tr} (h : asRT b = some (emb t)) : b = .t (emb t) := by
  cases b with
  | w s =>
    have h : some (RT.st s) = some (emb t) := h
    cases t <;> cases h
  | n => cases h
  | t r => cases h; rfl
theorem emb_inj : ∀ {t t' : Tr}, emb t = emb t' → t = t'
  | .lf _, .lf _, h => by cases h; rfl
  | .lf _, .nd _ _ _, h => by cases h
  | .nd _ _ _, .lf _, h => by cases h
  | .nd n y o, .nd n' y' o', h => by
    have h : RT.nd n (emb y) (emb o) = RT.nd n' (emb y') (emb o') := h
    injection h with h1 h2 h3
    rw [h1, emb_inj h2, emb_inj h3]
theorem prov_step {S S' : List SV} {W : List Str} {w : Str} (h : Prov S W) (e : stepL S w = some S') : Prov S' (W ++ [w]) := by
  by_cases hw : w = ")"
  · subst hw
    unfold stepL at e
    rw [if_neg (by decide)] at e
    cases ef : foldL (S.drop (S.length - 6)) with
    | none => rw [ef] at e; cases e
    | some r =>
      rw [ef] at e
      cases e
      obtain ⟨a, b, c, n, y, o, el, hn, hy, ho, rfl⟩ := foldL_of ef
      obtain ⟨rfl, h1⟩ := numOf_of hn
      have eS : S = (((((S.take (S.length - 6) ++ [.w "("]) ++ [.t (.lf (.i n))]) ++ [.w "?"]) ++ [b]) ++ [.w ":"]) ++ [c] := by
        have := List.take_append_drop (S.length - 6) S
        rw [el] at this
        rw [← this]
        simp
      generalize S.take (S.length - 6) = T at eS ⊢
      obtain ⟨W1, V6, rfl, p1, f6⟩ := prov_last h eS
      obtain ⟨W2, V5, rfl, p2, f5⟩ := prov_last p1 rfl
      obtain ⟨W3, V4, rfl, p3, f4⟩ := prov_last p2 rfl
      obtain ⟨W4, V3, rfl, p4, f3⟩ := prov_last p3 rfl
      obtain ⟨W5, V2, rfl, p5, f2⟩ := prov_last p4 rfl
      obtain ⟨W6, V1, rfl, p6, f1⟩ := prov_last p5 rfl
      have e1 : V1 = [("(" : Str)] := f1
      have e3 : V3 = [("?" : Str)] := f3
      have e5 : V5 = [(":" : Str)] := f5
      subst e1 e3 e5
      have key : From (.t (.nd n y o)) ([("(" : Str)] ++ V2 ++ [("?" : Str)] ++ V4 ++ [(":" : Str)] ++ V6 ++ [(")" : Str)]) := by
        intro t et
        cases t with
        | lf l => cases et
        | nd n' ty to =>
          have et : RT.nd n y o = RT.nd n' (emb ty) (emb to) := et
          injection et with q1 q2 q3
          subst q1 q2 q3
          have hb := asRT_emb hy
          have hc := asRT_emb ho
          subst hb hc
          obtain ⟨g1, g2⟩ := f2 (.lf (.i n)) rfl
          obtain ⟨g3, g4⟩ := f4 ty rfl
          obtain ⟨g5, g6⟩ := f6 to rfl
          refine ⟨?_, h1, g2, g4, g6⟩
          rw [g1, g3, g5]
          show _ = ("(" : Str) :: num8 n :: ("?" : Str) :: (toksL ty ++ (":" : Str) :: (toksL to ++ [(")" : Str)]))
          show [("(" : Str)] ++ [num8 n] ++ [("?" : Str)] ++ toksL ty ++ [(":" : Str)] ++ toksL to ++ [(")" : Str)] = _
          simp
      have := Prov.snoc p6 key
      have ee : W6 ++ [("(" : Str)] ++ V2 ++ [("?" : Str)] ++ V4 ++ [(":" : Str)] ++ V6 ++ [(")" : Str)] = W6 ++ ([("(" : Str)] ++ V2 ++ [("?" : Str)] ++ V4 ++ [(":" : Str)] ++ V6 ++ [(")" : Str)]) := by simp
      rw [ee]
      exact this
  · rw [stepL_item hw] at e
    cases e
    exact .snoc h (from_item w)
theorem prov_run : ∀ {ws : List Str} {S S' : List SV} {W : List Str}, Prov S W → runL S ws = some S' → Prov S' (W ++ ws)
  | [], S, S', W, h, e => by
    cases e
    rw [List.append_nil]
    exact h
  | w :: r, S, S', W, h, e => by
    have e : (match stepL S w with
      | some S' => runL S' r
      | none => none) = some S' := e
    cases es : stepL S w with
    | none => rw [es] at e; cases e
    | some S1 =>
      rw [es] at e
      have := prov_run (prov_step h es) e
      rwa [List.append_assoc] at this
/-- what the law reads as a tree is that tree's text -/
theorem lawT_of {x : Str} {t : Tr} (h : lawT x = some (emb t)) : x = txt t ∧ Rd t := by
  unfold lawT at h
  split at h
  · cases h
  · split at h
    · rename_i r hr
      cases h
      have p := prov_run .nil hr
      rw [List.nil_append] at p
      obtain ⟨W', V, e, p', f⟩ := prov_last p (S := []) rfl
      have en : W' = [] := by
        generalize hS : ([] : List SV) = S at p'
        cases p' with
        | nil => rfl
        | snoc => simp at hS
      rw [en, List.nil_append] at e
      obtain ⟨h1, h2⟩ := f t rfl
      exact ⟨txt_of_words h2 (by rw [e, h1]), h2⟩
    · cases h
end Law
set_option Elab.async false
set_option linter.all false
set_option maxRecDepth 100000
set_option maxHeartbeats 1000000
namespace Law
open PySem PySem.Spec PyProof.Rows L2 Cor
def RT.dd : RT → PyData
  | .lf l => l.d
  | .st s => .str s
  | .nd n y o => .tuple [.int n, y.dd, o.dd]
theorem emb_d : ∀ t : Tr, (emb t).dd = t.d
  | .lf _ => rfl
  | .nd n y o => by
    show PyData.tuple [.int n, (emb y).dd, (emb o).dd] = .tuple [.int n, y.d, o.d]
    rw [emb_d y, emb_d o]
def kstr (k : Bool) : Str := if k = true then "True" else "False"
def ordR (n : Int) : RT → List Str
  | .nd m _ _ => if m ≤ n then [("order" : Str)] else []
  | _ => []
/-- what the law finds wrong, and the kinds of the plain values -/
def kindsR : RT → List Str
  | .lf l => [kstr (lfB l)]
  | .st _ => [("other" : Str)]
  | .nd n y o => kindsR y ++ kindsR o ++ (if y.dd.shown = o.dd.shown then [("same" : Str)] else []) ++ (ordR n y ++ ordR n o)
def depR : RT → Nat
  | .nd _ y o => max (depR y) (depR o) + 1
  | _ => 0
theorem depR_emb : ∀ t : Tr, depR (emb t) = t.dep
  | .lf _ => rfl
  | .nd _ y o => by
    show max (depR (emb y)) (depR (emb o)) + 1 = max y.dep o.dep + 1
    rw [depR_emb y, depR_emb o]
def lawOk (x : Str) : Option RT := match lawT x with
  | some r => if (∀ s ∈ kindsR r, some s = (kindsR r).head?) ∧ (kindsR r).head? ≠ some "other" ∧ depR r ≤ 12 then some r else none
  | none => none
theorem kstr_inj {k k' : Bool} (h : kstr k = kstr k') : k = k' := by
  cases k <;> cases k' <;> first | rfl | (exact absurd h (by decide +kernel))
/-- the leftmost value's kind comes first -/
theorem kinds_head : ∀ r : RT, ∃ s q, kindsR r = s :: q ∧ (s = "other" ∨ ∃ k, s = kstr k)
  | .lf l => ⟨_, _, rfl, .inr ⟨_, rfl⟩⟩
  | .st _ => ⟨_, _, rfl, .inl rfl⟩
  | .nd n y o => by
    obtain ⟨s, q, e, h⟩ := kinds_head y
    refine ⟨s, q ++ kindsR o ++ (if y.dd.shown = o.dd.shown then [("same" : Str)] else []) ++ (ordR n y ++ ordR n o), ?_, h⟩
    show kindsR y ++ kindsR o ++ _ ++ _ = _
    rw [e]
    simp
theorem kinds_left : ∀ t : Tr, ∃ q, kindsR (emb t) = kstr (leftB t) :: q
  | .lf l => ⟨_, rfl⟩
  | .nd n y o => by
    obtain ⟨q, e⟩ := kinds_left y
    refine ⟨q ++ kindsR (emb o) ++ (if (emb y).dd.shown = (emb o).dd.shown then [("same" : Str)] else []) ++ (ordR n (emb y) ++ ordR n (emb o)), ?_⟩
    show kindsR (emb y) ++ kindsR (emb o) ++ _ ++ _ = _
    rw [e]
    simp [leftB]
def AllK (k : Bool) (r : RT) : Prop := ∀ s ∈ kindsR r, s = kstr k
theorem allK_nd {k : Bool} {n : Int} {y o : RT} (h : AllK k (.nd n y o)) : AllK k y ∧ AllK k o ∧ y.dd.shown ≠ o.dd.shown ∧ ordR n y = [] ∧ ordR n o = [] := by
  have mem : ∀ s, s ∈ kindsR y ++ kindsR o ++ (if y.dd.shown = o.dd.shown then [("same" : Str)] else []) ++ (ordR n y ++ ordR n o) → s = kstr k := h
  have no : ∀ s : Str, s = "same" ∨ s = "order" → s ≠ kstr k := fun s hs => by
    rcases hs with rfl | rfl <;> cases k <;> decide +kernel
  have ord : ∀ r : RT, (∀ s ∈ ordR n r, s = kstr k) → ordR n r = [] := fun r hr => by
    cases r with
    | lf l => rfl
    | st s => rfl
    | nd m y o =>
      have hr : ∀ s ∈ (if m ≤ n then [("order" : Str)] else []), s = kstr k := hr
      show (if m ≤ n then [("order" : Str)] else []) = []
      by_cases hm : m ≤ n
      · rw [if_pos hm] at hr
        exact absurd (hr _ List.mem_cons_self) (no _ (.inr rfl))
      · rw [if_neg hm]
  refine ⟨fun s hs => mem s (by simp [hs]), fun s hs => mem s (by simp [hs]), fun e => ?_, ord y fun s hs => mem s (by simp [hs]), ord o fun s hs => mem s (by simp [hs])⟩
  exact no "same" (.inl rfl) (mem _ (by rw [if_pos e]; simp))
theorem allK_emb {k : Bool} : ∀ {r : RT}, AllK k r → ∃ t, r = emb t
  | .lf l, _ => ⟨.lf l, rfl⟩
  | .st s, h => absurd (h "other" List.mem_cons_self) (by cases k <;> decide +kernel)
  | .nd n y o, h => by
    obtain ⟨h1, h2, _⟩ := allK_nd h
    obtain ⟨ty, rfl⟩ := allK_emb h1
    obtain ⟨to, rfl⟩ := allK_emb h2
    exact ⟨.nd n ty to, rfl⟩
theorem allK_hom {k : Bool} : ∀ {t : Tr}, AllK k (emb t) → t.hom k
  | .lf l, h => by
    have e := kstr_inj (h (kstr (lfB l)) List.mem_cons_self)
    cases l with
    | i n => exact e.symm
    | b n => exact e.symm
  | .nd n y o, h => by
    obtain ⟨h1, h2, _⟩ := allK_nd (show AllK k (.nd n (emb y) (emb o)) from h)
    exact ⟨allK_hom h1, allK_hom h2⟩
/-- the top number is greater -/
def topGt (m : Int) : Tr → Prop
  | .lf _ => True
  | .nd n _ _ => m < n
theorem ord_top {n : Int} {t : Tr} : ordR n (emb t) = [] ↔ topGt n t := by
  cases t with
  | lf l => exact ⟨fun _ => trivial, fun _ => rfl⟩
  | nd m y o =>
    show (if m ≤ n then [("order" : Str)] else []) = [] ↔ n < m
    by_cases h : m ≤ n
    · rw [if_pos h]
      exact ⟨fun z => (nomatch z), fun z => by omega⟩
    · rw [if_neg h]
      exact ⟨fun _ => by omega, fun _ => rfl⟩
theorem snd_of {k : Bool} : ∀ {t : Tr} {m : Int}, AllK k (emb t) → topGt m t → sndE t m k = true
  | .lf l, m, h, _ => by
    show (lfB l == k) = true
    rw [kstr_inj (h (kstr (lfB l)) List.mem_cons_self), beq_self_eq_true]
  | .nd n y o, m, h, ht => by
    obtain ⟨h1, h2, h3, h4, h5⟩ := allK_nd (show AllK k (.nd n (emb y) (emb o)) from h)
    have ht : m < n := ht
    have e : PyData.eqv y.d o.d = false := by
      rw [eqv_tr (allK_hom h1) (allK_hom h2)]
      refine decide_eq_false fun z => h3 ?_
      rw [z]
    unfold sndE
    rw [if_neg (by rw [e]; rintro (z | z); omega; cases z), snd_of h1 (ord_top.mp h4), snd_of h2 (ord_top.mp h5)]
    rfl
theorem snd_all {k : Bool} : ∀ {t : Tr} {m : Int}, sndE t m k = true → AllK k (emb t) ∧ topGt m t
  | .lf l, m, h => by
    have h : (lfB l == k) = true := h
    refine ⟨fun s hs => ?_, trivial⟩
    rw [List.mem_singleton.mp (show s ∈ [kstr (lfB l)] from hs), beq_iff_eq.mp h]
  | .nd n y o, m, h => by
    unfold sndE at h
    split at h
    · cases h
    · rename_i hn
      rw [Bool.and_eq_true] at h
      obtain ⟨a1, t1⟩ := snd_all h.1
      obtain ⟨a2, t2⟩ := snd_all h.2
      have ne : y ≠ o := fun z => hn (.inr (by rw [eqv_tr (allK_hom a1) (allK_hom a2), z]; exact decide_eq_true rfl))
      have hsh : (emb y).dd.shown ≠ (emb o).dd.shown := fun z => ne (shown_inj (by rw [emb_d, emb_d] at z; exact z))
      refine ⟨fun s hs => ?_, show m < n by omega⟩
      have hs : s ∈ kindsR (emb y) ++ kindsR (emb o) ++ (if (emb y).dd.shown = (emb o).dd.shown then [("same" : Str)] else []) ++ (ordR n (emb y) ++ ordR n (emb o)) := hs
      rw [if_neg hsh, ord_top.mpr t1, ord_top.mpr t2, List.append_nil, List.append_nil, List.append_nil] at hs
      rcases List.mem_append.mp hs with z | z
      · exact a1 s z
      · exact a2 s z
theorem rd_top {t : Tr} (h : Rd t) : topGt 0 t := by
  cases t with
  | lf l => trivial
  | nd n y o => exact (show 0 < n by have := h.1; omega)
theorem prs_rd {ws : List Str} : ∀ {f i : Nat} {t : Tr} {j : Nat}, prs ws f i = some (t, j) → Rd t
  | 0, i, t, j, h => by cases h
  | f + 1, i, t, j, h => by
    unfold prs at h
    cases e : ws[i]? with
    | none => rw [e] at h; cases h
    | some w =>
      rw [e] at h
      simp only at h
      by_cases ho : isOpen w = true
      · rw [if_pos ho] at h
        cases ef : figT (tailS w) with
        | none => rw [ef] at h; cases h
        | some n =>
          rw [ef] at h
          simp only at h
          by_cases hn : n = 0
          · rw [if_pos hn] at h; cases h
          rw [if_neg hn] at h
          by_cases hq : ws[i + 1]? = some ("?" : Str)
          · rw [if_pos hq] at h
            cases e1 : prs ws f (i + 2) with
            | none => rw [e1] at h; cases h
            | some p =>
              obtain ⟨y, j1⟩ := p
              rw [e1] at h
              simp only at h
              by_cases hc : ws[j1]? = some (":" : Str)
              · rw [if_pos hc] at h
                cases e2 : prs ws f (j1 + 1) with
                | none => rw [e2] at h; cases h
                | some p =>
                  obtain ⟨o, j2⟩ := p
                  rw [e2] at h
                  simp only at h
                  by_cases hd : ws[j2]? = some (")" : Str)
                  · rw [if_pos hd] at h
                    cases h
                    have := (fig_small ef).1
                    exact ⟨by omega, (fig_small ef).2.1, prs_rd e1, prs_rd e2⟩
                  · rw [if_neg hd] at h; cases h
              · rw [if_neg hc] at h; cases h
          · rw [if_neg hq] at h; cases h
      · rw [if_neg ho] at h
        unfold leafT at h
        split at h
        · cases h; exact True.intro
        · split at h
          · cases h; exact True.intro
          · cases en : numT w with
            | none => rw [en] at h; cases h
            | some n =>
              rw [en] at h
              cases h
              exact num_small en
/-- both read alike -/
theorem read_ok {x : Str} {t : Tr} (h : readT x = some t) : lawOk x = some (emb t) ∧ x = txt t ∧ Rd t ∧ t.dep ≤ 12 ∧ AllK (leftB t) (emb t) := by
  unfold readT at h
  split at h
  · rename_i t1 j e
    split at h
    · rename_i hc
      cases h
      have hr := prs_rd e
      have hd : t.dep ≤ 12 := by have := (prs_bound e).2.2; omega
      obtain ⟨a, _⟩ := snd_all hc.1
      obtain ⟨q, eq⟩ := kinds_left t
      refine ⟨?_, hc.2.symm, hr, hd, a⟩
      have el : lawT x = some (emb t) := by rw [← hc.2]; exact lawT_txt hr (txt_nonl hr)
      unfold lawOk
      rw [el]
      refine if_pos ⟨fun s hs => ?_, ?_, by rw [depR_emb]; exact hd⟩
      · rw [eq, a s hs]
        rfl
      · rw [eq]
        intro z
        have := Option.some.inj z
        cases hk : leftB t <;> rw [hk] at this <;> exact absurd this (by decide +kernel)
    · cases h
  · cases h
theorem read_of {x : Str} {r : RT} (h : lawOk x = some r) : ∃ t, r = emb t ∧ readT x = some t := by
  unfold lawOk at h
  split at h
  · rename_i r' e
    split at h
    · rename_i hc
      cases h
      obtain ⟨h1, h2, h3⟩ := hc
      obtain ⟨s, q, ek, hs⟩ := kinds_head r
      rw [ek] at h2
      rcases hs with rfl | ⟨k, rfl⟩
      · exact absurd rfl h2
      have a : AllK k r := fun s hs => by
        have := h1 s hs
        rw [ek] at this
        exact Option.some.inj this
      obtain ⟨t, rfl⟩ := allK_emb a
      obtain ⟨ex, hr⟩ := lawT_of e
      refine ⟨t, rfl, ?_⟩
      have hk : leftB t = k := by
        obtain ⟨q', e'⟩ := kinds_left t
        exact kstr_inj (a _ (by rw [e']; exact List.mem_cons_self))
      rw [ex]
      exact readT_txt hr (by rw [depR_emb] at h3; exact h3) (by rw [hk]; exact snd_of a (rd_top hr))
    · cases h
  · cases h
theorem read_none {x : Str} : readT x = none ↔ lawOk x = none := by
  constructor
  · intro h
    cases e : lawOk x with
    | none => rfl
    | some r =>
      obtain ⟨t, _, e2⟩ := read_of e
      rw [h] at e2
      cases e2
  · intro h
    cases e : readT x with
    | none => rfl
    | some t =>
      have := (read_ok e).1
      rw [h] at this
      cases this
end Law
set_option Elab.async false
set_option linter.all false
set_option maxRecDepth 100000
set_option maxHeartbeats 1000000
namespace Law
open PySem PySem.Spec PyProof.Rows L2 Cor LamX NdefX
structure Xc8 (K : PySem.W.Frag) (mg : Str → Option Value) (S CN CD : Addr) : Prop where
  mS : mg "StoreError" = some (.ref S)
  mN : mg "NoWorth" = some (.ref CN)
  mD : mg "NoDeal" = some (.ref CD)
  xN : Exn K CN "ValueError.__new__" "ValueError.__init__"
  fV : PySem.W.findIn K (.ref CN) "value" = some none
  ex : PySem.W.exmOne K (.ref CN) (.ref S) = some true
  kN : PySem.W.kitOne K (.ref CN) (.ref CN) = some true
  kD : PySem.W.kitOne K (.ref CN) (.ref CD) = some false
abbrev sTold8 : Stmt := topS 45
theorem scTold8 : FnScope ["_law_text_here", "_law_found_here", "e"] ["_law_text_here"] (defScope sTold8) := ⟨rfl, rfl, rfl, by decide +kernel, rfl, by decide +kernel, by decide +kernel⟩
/-- Worth.read of a text, or what it raises -/
def spReadB (C CN : Addr) : Sp := fun vs H Q E => spRead C vs H Q E ∨ spReadX CN vs H Q E
def spTold8 (C : Addr) : Sp := fun vs H Q _ => ∃ x : Str, vs = [.str x] ∧ A7 x ∧ x.length ≤ 1000000 ∧ (∀ t, readT x = some t → NewW C H t Q) ∧ (readT x = none → ∀ p H', Same H H' → H' p = some (.tup [.str "refused", .str x]) → Q (.ref p) H')
section
variable {P : Program} {w : World} {K : PySem.W.Frag} {mg : Str → Option Value} {base : Heap} {C CN S CD fe : Addr}
theorem ok_told8 {f : Addr} {fd : FuncData} (F : Fun K "_law_told" "_law_told" sTold8 f fd) (T : GloW mg) (X : Xc8 K mg S CN CD) (st : Stm K mg "Worth" C "read" fe) (me : MdX P w K mg base 24 fe (spReadB C CN)) : FnOk P w K mg base CX0 25 f fd ["_law_text_here"] (spTold8 C) := by
  refine F.ok scTold8 (k := 24) (fun vs H Q E h => ?_) (fun cdv A outer s H vs Q E hr h => ?_)
  · obtain ⟨x, rfl, _⟩ := h
    rfl
  · obtain ⟨x, rfl, ha, hl, q1, q2⟩ := h
    refine ⟨_, (pss_cons (ps_set (i := 1) scTold8.nd rfl (Or.inl rfl) pe_str)
      (pss_cons (ps_try_as (i := 2) (c := .ref S) (Wout := fun _ _ _ _ => False) rfl rfl scTold8.nd rfl rfl ⟨by rfl, by decide, .inl X.mS⟩ L2.takes0 (fun W pn xe tk pw => (pss_one (ps_set (i := 1) scTold8.nd rfl (Or.inl rfl) (pe_smW st me hr tk (by rfl) (pa_cons (pv 0) pa_nil))))) (fun a oe cls d pn hz hf => (pss_one (ps_if (PW.pt (pw_and (pt_val (pe_callB (call_isD hz hf) (by rfl) T.isinstance (by decide +kernel) (pa_cons (pv 2) (pa_cons (pe_glob (v := .ref CN) (by rfl) X.mN rfl) pa_nil)))) (pw_and1 (pt_not (pt_val (pe_callB (call_isD hz hf) (by rfl) T.isinstance (by decide +kernel) (pa_cons (pv 2) (pa_cons (pe_glob (v := .ref CD) (by rfl) X.mD rfl) pa_nil)))))))) (pss_one (ps_set (i := 1) scTold8.nd rfl (Or.inl rfl) (pe_tup (pa_cons pe_str (pa_cons (pe_xf (C := CN) ⟨X.xN.ga, X.xN.gg, X.xN.exC, X.xN.hd⟩ X.fV hz hf (pv 2)) pa_nil))))) pss_nil))))
      (pss_one (ps_ret (pv 1))))), ?_⟩
    refine ⟨_, rfl, ?_⟩
    cases e : readT x with
    | some t => exact .inl ⟨x, t, rfl, ha, hl, e, fun a H' s' na hw => ⟨_, rfl, q1 t e a H' s' na hw⟩⟩
    | none =>
      refine .inr ⟨x, rfl, ha, hl, e, fun d H' s' hd => ⟨true, X.ex, fun _ a na => ?_, fun z => by cases z⟩⟩
      refine ⟨_, rfl, CN, d, _, _, _, _, _, true, rfl, rfl, rfl, hd, X.xN, (fun u r => r), X.kN, _, rfl, ?_⟩
      refine ⟨_, rfl, CN, d, _, _, _, _, _, false, rfl, rfl, rfl, hd, X.xN, (fun u r => r), X.kD, _, rfl, ?_⟩
      refine ⟨_, rfl, rfl, rfl, d, _, .str x, rfl, hd, rfl, (by show 2 ≤ sizeLine; decide), fun p np => ?_⟩
      exact ⟨_, rfl, q2 e p _ (fun b o z => same_upd np b o (s' b o z)) upd_same⟩
end
end Law
set_option Elab.async false
set_option linter.all false
set_option maxRecDepth 100000
set_option maxHeartbeats 1000000
namespace Law
open PySem PySem.Spec PyProof.Rows L2 Cor LamX NdefX
def signV (c : Nat) : V := .str ⟨#[c]⟩
/-- [c for c in z if p(c)] -/
theorem lc_filt {z : Str} {p : Nat → Bool} {g : TG} {tt : TT} {te : TE} {vs : List Nat} {σ : L2.St} {H1 : Hp} {D : Addr} {Qd : Hp → Prop} (nD : H1 D = none) (hz : z.length ≤ sizeLine)
    (hs : ∀ (c : Nat) (H : Hp) (R R' : Hp → Prop), (p c = true → ∀ acc, H D = some (.lst acc) → acc.length < sizeLine → R (upd H D (.lst (acc ++ [signV c])))) → (p c = false → R H) → ∀ acc, H D = some (.lst acc) → acc.length < sizeLine → g (.str ⟨#[c]⟩) (wipe σ vs) H fun σ2 H2 => wipe σ2 vs = wipe σ vs ∧ tt σ2 H2 fun b H3 =>
      if b = true then te σ2 H3 fun y H4 => ∃ acc, H4 D = some (.lst acc) ∧ acc.length < sizeLine ∧ R (upd H4 D (.lst (acc ++ [y]))) else R H3)
    (hd : ∀ H, Same H1 H → H D = some (.lst ((z.cps.toList.filter p).map signV)) → Qd H) :
    ∃ W : Nat → Nat → Hp → Prop, (∃ m, W 0 m (upd H1 D (.lst []))) ∧ ∀ i m H, W i m H →
      ((Its z).stop i H ∧ Qd H) ∨ ((Its z).go i H ∧ ∃ Nx : Hp → Prop, (∀ H', Nx H' → ∃ m', m' < m ∧ W (i + 1) m' H') ∧ ∀ x H', (Its z).yld i H x H' → g x (wipe σ vs) H' fun σ2 H2 => wipe σ2 vs = wipe σ vs ∧ tt σ2 H2 fun b H3 =>
        if b = true then te σ2 H3 fun y H4 => ∃ acc, H4 D = some (.lst acc) ∧ acc.length < sizeLine ∧ Nx (upd H4 D (.lst (acc ++ [y]))) else Nx H3) := by
  refine lc_it (n := z.cps.size) walk_str (fun i H => Same H1 H ∧ H D = some (.lst (((z.cps.toList.take i).filter p).map signV))) ⟨same_upd nD, upd_same⟩ (fun _ _ _ _ => True.intro) ?_ ?_
  · rintro i x H _ hi ⟨s1, e1⟩ ⟨rfl, c, hc, rfl⟩
    refine hs c _ _ (fun _ => True) (fun hp acc e hl => ⟨fun b o z' => ?_, ?_⟩) (fun hp => ⟨s1, ?_⟩) _ e1 ?_
    · rw [upd_ne (ne_of_none z' nD)]
      exact s1 b o z'
    · rw [e1] at e
      cases e
      rw [upd_same, take_succ_cps hc, List.filter_append, List.map_append]
      simp [List.filter_cons, hp]
    · rw [e1, take_succ_cps hc, List.filter_append]
      simp [List.filter_cons, hp]
    · rw [List.length_map]
      refine Nat.lt_of_le_of_lt (List.length_filter_le _ _) ?_
      rw [List.length_take, len_cps]
      have : z.cps.size = z.length := rfl
      omega
  · rintro H ⟨s1, e1⟩
    refine hd H s1 ?_
    rw [e1, show z.cps.size = z.cps.toList.length from (Array.length_toList).symm, List.take_length]
theorem signs_dp {K : PySem.W.Frag} {H : Hp} : ∀ cs : List Nat, DpAll K H (cs.map signV) (strsD (cs.map fun c => (⟨#[c]⟩ : Str)))
  | [] => .nil
  | c :: cs => .cons (.str _) (signs_dp cs)
theorem filt_nil {z : Str} {q : Nat → Bool} : ((z.cps.toList.filter fun c => !q c) = []) ↔ z.cps.toList.all q = true := by
  rw [List.filter_eq_nil_iff, List.all_eq_true]
  constructor
  · intro h c hc
    have := h c hc
    cases hq : q c with
    | true => rfl
    | false => rw [hq] at this; exact absurd rfl this
  · intro h c hc
    rw [h c hc]
    decide
theorem eqv_signs (cs : List Nat) : PyData.eqv (.list (strsD (cs.map fun c => (⟨#[c]⟩ : Str)))) (.list (strsD [])) = decide (cs = []) := by
  rw [show PyData.eqv (.list (strsD (cs.map fun c => (⟨#[c]⟩ : Str)))) (.list (strsD [])) = decide ((cs.map fun c => (⟨#[c]⟩ : Str)) = []) from eqv_strs _ []]
  cases cs <;> rfl
abbrev sFig8 : Stmt := topS 46
theorem scFig8 : FnScope ["_law_word", "_law_sign"] ["_law_word"] (defScope sFig8) := ⟨rfl, rfl, rfl, by decide +kernel, rfl, by decide +kernel, by decide +kernel⟩
abbrev sLeaf8 : Stmt := topS 47
theorem scLeaf8 : FnScope ["_law_word", "_law_figure_here"] ["_law_word"] (defScope sLeaf8) := ⟨rfl, rfl, rfl, by decide +kernel, rfl, by decide +kernel, by decide +kernel⟩
def spFig8 : Sp := fun vs H Q _ => ∃ x : Str, vs = [.str x] ∧ x.length ≤ 10000000 ∧ A7 x ∧ ∀ H', Same H H' → Q (optV (figT x)) H'
section
variable {P : Program} {w : World} {K : PySem.W.Frag} {mg : Str → Option Value} {base : Heap}
theorem ok_fig8 {f : Addr} {fd : FuncData} (F : Fun K "_law_figure" "_law_figure" sFig8 f fd) (T : GloP K mg) : FnOk P w K mg base CX0 1 f fd ["_law_word"] spFig8 := by
  refine F.ok scFig8 (k := 0) (fun vs H Q E h => ?_) (fun cdv A outer s H vs Q E hr h => ?_)
  · obtain ⟨x, rfl, _⟩ := h
    rfl
  · obtain ⟨x, rfl, hl, h7, q⟩ := h
    refine ⟨_, (pss_cons (ps_if (PW.pt (pw_or (pt_not (pt_chain op_lt op_lt pe_int (pe_callB call_len (by rfl) T.len PySem.boot_len (pa_cons (pv 0) pa_nil)) pe_int)) (pw_or1 (pt_cmpR (op_neD hr.units) (pe_lc (own := [("_law_sign", 1)]) (g := gName 1) (by rfl) scFig8.nd (pi_str (pv 0)) (blkOk_by (own := [("_law_sign", 1)]) (N := ["_law_word", "_law_sign"]) (sc := defScope sFig8) (by decide +kernel)) (fun _ _ _ _ _ => (pg_name (i := 1) scFig8.nd rfl (Or.inl rfl))) (fun _ _ _ _ _ => (pts_one (pt_cmpR op_notIn_sign (pv 1) pe_str (by rfl)))) (fun _ _ _ _ _ => (pv 1))) (pe_lst pa_nil) (nomark _))))) (pss_one (ps_ret pe_non)) pss_nil)
      (pss_one (ps_ret (pe_ifExp (PW.pt (pw_and (pt_cmpR op_gt (pe_callB call_len (by rfl) T.len PySem.boot_len (pa_cons (pv 0) pa_nil)) pe_int (nomark _)) (pw_and1 (pt_cmpR op_eq (pe_ix ix_str (pv 0) pe_int (fun _ _ => rfl)) pe_str (nomark _))))) pe_non (pe_callTy call_int_str (by rfl) T.int (by decide +kernel) (pa_cons (pv 0) pa_nil)))))), ?_⟩
    have hz : x.length ≤ sizeLine := by rw [sizeLine_eq]; omega
    have none_ : figB x = false → ∀ H', Same H H' → Q .non H' := fun e H' s => by
      have z := q H' s
      unfold figT at z
      rw [e, if_neg Bool.false_ne_true] at z
      exact z
    have some_ : figB x = true → ∀ H', Same H H' → Q (.int ((NumText.digitsVal x.cps.toList : Nat) : Int)) H' := fun e H' s => by
      have z := q H' s
      unfold figT at z
      rw [if_pos e] at z
      exact z
    have lb : figB x = ((decide (1 ≤ x.length) && decide (x.length ≤ 20)) && (x.cps.toList.all (isIn digS) && (decide (x = "0") || !decide (x.cps.toList.head? = some 48)))) := rfl
    refine ⟨_, rfl, .str x, x.length, rfl, ⟨hz, rfl⟩, _, _, rfl, rfl, _, rfl, ?_⟩
    by_cases g1 : 1 ≤ x.length
    · rw [show decide ((0 : Int) < ((x.length : Nat) : Int)) = true from decide_eq_true (by omega)]
      refine ⟨_, _, rfl, rfl, _, rfl, ?_⟩
      by_cases g2 : x.length ≤ 20
      · rw [show decide (((x.length : Nat) : Int) < 21) = true from decide_eq_true (by omega)]
        refine ⟨_, rfl, x, rfl, fun D nD => lc_filt (p := fun c => !isIn digS c) nD hz (fun c H'' R R' r1 r2 acc ea hla => ⟨rfl, _, rfl, c, digS, rfl, rfl, _, rfl, ?_⟩) fun H2 sx eD => ?_⟩
        · refine ite2 (fun hb => ?_) (fun hb => ?_)
          · exact ⟨_, rfl, acc, ea, hla, r1 hb acc ea hla⟩
          · refine r2 ?_
            cases hq : (!isIn digS c) with
            | false => rfl
            | true => exact absurd hq hb
        · refine ⟨(by show 0 ≤ sizeLine; decide), fun p0 n0 => ?_⟩
          have s4 := same_upd (o := .lst []) n0
          refine ⟨.list (strsD ((x.cps.toList.filter fun c => !isIn digS c).map fun c => (⟨#[c]⟩ : Str))), .list (strsD []), .lst (SqL.of (s4 _ _ eD)) (signs_dp _), .lst (SqL.of upd_same) .nil, shaped_strs (fun n hn => ?_), shaped_strs (fun n hn => nomatch hn), _, rfl, ?_⟩
          · obtain ⟨c, hc, rfl⟩ := List.mem_map.mp hn
            intro d hd
            have : d = c := by simpa using hd
            rw [this]
            exact h7 c (List.mem_filter.mp hc).1
          rw [eqv_signs]
          have sX : Same H (upd H2 p0 (.lst [])) := fun b o z => s4 b o (sx b o z)
          generalize upd H2 p0 (.lst []) = H3 at sX ⊢
          by_cases ha : x.cps.toList.all (isIn digS) = true
          · rw [decide_eq_true (filt_nil.mpr ha)]
            rw [ha] at lb
            have lc := len_cps x
            refine iteF ?_
            refine ⟨_, rfl, .str x, x.length, rfl, ⟨hz, rfl⟩, _, _, rfl, rfl, _, rfl, ?_⟩
            rw [decide_eq_true g1, decide_eq_true g2] at lb
            refine ite2 (fun h1 => ?_) (fun h1 => ?_)
            · have g3 : 2 ≤ x.length := by have := of_decide_eq_true h1; omega
              have e4 : ¬ x = "0" := fun z => by
                rw [z] at g3
                exact absurd g3 (by decide +kernel)
              cases hx : x.cps.toList with
              | nil => rw [hx] at lc; exact absurd lc (by show ¬ 0 = x.length; omega)
              | cons c r =>
                have e5 : decide (V.str ⟨#[c]⟩ = V.str "0") = decide (c = 48) := by
                  by_cases hc : c = 48
                  · subst hc
                    rw [decide_eq_true rfl, decide_eq_true (by decide +kernel)]
                  · rw [decide_eq_false hc, decide_eq_false]
                    intro z
                    have z2 : (⟨#[c]⟩ : Str).cps.toList = ("0" : Str).cps.toList := congrArg (fun y : Str => y.cps.toList) (V.str.inj z)
                    rw [show ("0" : Str).cps.toList = [48] from by decide +kernel] at z2
                    exact hc (List.cons.inj z2).1
                refine ⟨_, rfl, x, 0, c, rfl, rfl, hz, by rw [hx]; exact atI_zero, rfl, _, rfl, ?_⟩
                rw [e5]
                by_cases hc : c = 48
                · rw [decide_eq_true hc]
                  refine none_ ?_ _ sX
                  rw [lb, decide_eq_false e4, hx, hc]
                  rfl
                · rw [decide_eq_false hc]
                  have hb : figB x = true := by
                    rw [lb, hx, decide_eq_false e4, show decide ((c :: r).head? = some 48) = false from decide_eq_false fun z => hc (Option.some.inj z)]
                    rfl
                  obtain ⟨i1, i2⟩ := fig_int hb
                  exact ⟨_, rfl, x, _, rfl, i1, i2, some_ hb _ sX⟩
            · have g3 : x.length = 1 := by
                have h1' : ¬ ((1 : Int) < ((x.length : Nat) : Int)) := fun z => by
                  rw [decide_eq_true z] at h1
                  exact absurd h1 (by decide)
                omega
              have hb : figB x = true := by
                rw [lb]
                refine (Bool.true_and _).trans ?_
                refine (Bool.true_and _).trans ?_
                cases hx : x.cps.toList with
                | nil => rw [hx] at lc; exact absurd lc (by show ¬ 0 = x.length; omega)
                | cons c r =>
                  by_cases hc : c = 48
                  · have : r = [] := by
                      rw [hx] at lc
                      have : r.length + 1 = 1 := Eq.trans lc g3
                      exact List.eq_nil_of_length_eq_zero (by omega)
                    rw [this, hc] at hx
                    rw [decide_eq_true (show x = "0" from sgn_inj (by unfold sgn; rw [hx]; decide +kernel))]
                    rfl
                  · rw [show decide ((c :: r).head? = some 48) = false from decide_eq_false fun z => hc (Option.some.inj z), Bool.not_false, Bool.or_true]
              obtain ⟨i1, i2⟩ := fig_int hb
              exact ⟨_, rfl, x, _, rfl, i1, i2, some_ hb _ sX⟩
          · rw [decide_eq_false (fun z => ha (filt_nil.mp z))]
            refine none_ ?_ _ sX
            rw [lb, decide_eq_true g1, decide_eq_true g2]
            cases h : x.cps.toList.all (isIn digS) with
            | false => rfl
            | true => exact absurd h ha
      · rw [show decide (((x.length : Nat) : Int) < 21) = false from decide_eq_false (by omega)]
        refine none_ ?_ _ fun _ _ z => z
        rw [lb, decide_eq_false g2, Bool.and_false, Bool.false_and]
    · rw [show decide ((0 : Int) < ((x.length : Nat) : Int)) = false from decide_eq_false (by omega)]
      refine ⟨_, rfl, none_ ?_ _ fun _ _ z => z⟩
      rw [lb, decide_eq_false g1, Bool.false_and, Bool.false_and]
def spLeaf8 : Sp := fun vs H Q _ => ∃ x : Str, vs = [.str x] ∧ x.length ≤ 10000000 ∧ A7 x ∧ ∀ H', Same H H' → Q (leafV x) H'
theorem ok_leaf8 {f : Addr} {fd : FuncData} (F : Fun K "_law_leaf_of" "_law_leaf_of" sLeaf8 f fd) (T : GloP K mg) (df : Df P w K mg base "_law_figure" 1 ["_law_word"] spFig8) : FnOk P w K mg base CX0 2 f fd ["_law_word"] spLeaf8 := by
  refine F.ok scLeaf8 (k := 1) (fun vs H Q E h => ?_) (fun cdv A outer s H vs Q E hr h => ?_)
  · obtain ⟨x, rfl, _⟩ := h
    rfl
  · obtain ⟨x, rfl, hl, h7, q⟩ := h
    refine ⟨_, (pss_cons (ps_if (pt_cmpR op_in_seq (pv 0) (pe_tup (pa_cons pe_str (pa_cons pe_str pa_nil))) (by rfl)) (pss_one (ps_ret (pe_cmpR op_eq (pv 0) pe_str (nomark _)))) pss_nil)
      (pss_cons (ps_if (pt_cmpR op_eq (pe_slice sl_str (pv 0) po_none (po_some pe_int)) pe_str (nomark _)) (pss_cons (ps_set (i := 1) scLeaf8.nd rfl (Or.inl rfl) (pe_df (E := E0) df hr (by rfl) (pa_cons (pe_slice sl_str (pv 0) (po_some pe_int) po_none) pa_nil)))
      (pss_one (ps_ret (pe_ifExp (pt_cmpR op_in_seq (pv 1) (pe_tup (pa_cons pe_non (pa_cons pe_int pa_nil))) (by rfl)) pe_non (pe_op op_sub pe_int (pv 1)))))) pss_nil)
      (pss_one (ps_ret (pe_df (E := E0) df hr (by rfl) (pa_cons (pv 0) pa_nil)))))), ?_⟩
    have hz : x.length ≤ sizeLine := by rw [sizeLine_eq]; omega
    have lc := len_cps x
    refine ⟨_, rfl, (by show 2 ≤ sizeLine; decide), fun p np => ?_⟩
    have s1 := same_upd (o := .tup [V.str "yes", V.str "no"]) np
    refine ⟨p, _, rfl, .inr (SqT.of upd_same), rfl, rfl, _, rfl, ?_⟩
    have ei : inV (.str x) [V.str "yes", V.str "no"] = (decide (x = "yes") || decide (x = "no")) := by
      have k : ∀ y : Str, eqV (V.str y) (V.str x) = decide (x = y) := fun y => by
        show (y == x) = _
        rw [Bool.eq_iff_iff, decide_eq_true_eq, beq_iff_eq]
        exact ⟨Eq.symm, Eq.symm⟩
      show (eqV (V.str "yes") (V.str x) || (eqV (V.str "no") (V.str x) || false)) = _
      rw [k, k, Bool.or_false]
    refine ite2 (fun hb => ?_) (fun hb => ?_)
    · have hb : inV (.str x) [V.str "yes", V.str "no"] = true := hb
      rw [ei, Bool.or_eq_true] at hb
      refine ⟨_, rfl, rfl, ?_⟩
      have q := q _ s1
      unfold leafV leafT at q
      rcases hb with hb | hb
      · obtain rfl := of_decide_eq_true hb
        rw [if_pos rfl] at q
        exact q
      · obtain rfl := of_decide_eq_true hb
        exact q
    · have hb : ¬ inV (.str x) [V.str "yes", V.str "no"] = true := hb
      rw [ei, Bool.or_eq_true, not_or] at hb
      have h1 : ¬ x = "yes" := fun z => hb.1 (decide_eq_true z)
      have h2 : ¬ x = "no" := fun z => hb.2 (decide_eq_true z)
      have q2 : ∀ H', Same (upd H p (.tup [V.str "yes", V.str "no"])) H' → Q (optV (numT x)) H' := fun H' s' => by
        have q := q H' (fun b o z => s' b o (s1 b o z))
        unfold leafV leafT at q
        rw [if_neg h1, if_neg h2] at q
        cases e : numT x with
        | none => rw [e] at q; exact q
        | some n => rw [e] at q; exact q
      generalize upd H p (.tup [V.str "yes", V.str "no"]) = H1 at q2 ⊢
      refine ⟨_, rfl, _, rfl, x, rfl, hz, rfl, _, rfl, ?_⟩
      rw [first_minus]
      refine ite2 (fun hm => ?_) (fun hm => ?_)
      · have hm := of_decide_eq_true hm
        refine ⟨_, rfl, _, rfl, x, rfl, hz, _, rfl, ?_, ?_, fun H2 s2 => ?_⟩
        · rw [show (some (1 : Int)) = some ((1 : Nat) : Int) from rfl, cut_from, SX.S_len, List.length_drop, len_cps]
          omega
        · rw [show (some (1 : Int)) = some ((1 : Nat) : Int) from rfl, cut_from]
          exact fun c hc => h7 c (List.mem_of_mem_drop (show c ∈ x.cps.toList.drop 1 from hc))
        · rw [show cutS x (some 1) none = tailS x from cut_from x 1]
          have q := q2
          unfold numT at q
          rw [if_pos hm] at q
          cases hf : figT (tailS x) with
          | none =>
            rw [hf] at q
            refine ⟨_, rfl, (by show 2 ≤ sizeLine; decide), fun p2 n2 => ?_⟩
            have s3 := same_upd (o := .tup [V.non, V.int 0]) n2
            refine ⟨p2, _, rfl, .inr (SqT.of upd_same), rfl, rfl, _, rfl, ?_⟩
            exact q _ fun b o z => s3 b o (s2 b o z)
          | some n =>
            rw [hf] at q
            refine ⟨_, rfl, (by show 2 ≤ sizeLine; decide), fun p2 n2 => ?_⟩
            have s3 := same_upd (o := .tup [V.non, V.int 0]) n2
            refine ⟨p2, _, rfl, .inr (SqT.of upd_same), rfl, rfl, _, rfl, ?_⟩
            have q := q _ fun b o z => s3 b o (s2 b o z)
            have e0 : inV (optV (some n)) [V.non, V.int 0] = decide (n = 0) := by
              show (eqV V.non (V.int n) || (eqV (V.int 0) (V.int n) || false)) = _
              rw [Bool.or_false]
              show (false || ((0 : Int) == n)) = _
              rw [Bool.false_or, Bool.eq_iff_iff, decide_eq_true_eq, beq_iff_eq]
              exact ⟨Eq.symm, Eq.symm⟩
            rw [e0]
            by_cases hn : n = 0
            · rw [decide_eq_true hn]
              have q : Q (optV (if n = 0 then none else some (-n))) _ := q
              rw [if_pos hn] at q
              exact q
            · rw [decide_eq_false hn]
              have q : Q (optV (if n = 0 then none else some (-n))) _ := q
              rw [if_neg hn] at q
              refine ⟨_, rfl, _, _, rfl, rfl, ?_⟩
              show Q (V.int (0 - n)) _
              rw [Int.zero_sub]
              exact q
      · have hm : ¬ x.cps.toList.head? = some 45 := fun z => hm (decide_eq_true z)
        refine ⟨_, rfl, x, rfl, hl, h7, fun H2 s2 => ?_⟩
        have q := q2 H2 s2
        unfold numT at q
        rw [if_neg hm] at q
        exact q
end
end Law
set_option Elab.async false
set_option linter.all false
set_option maxRecDepth 100000
set_option maxHeartbeats 1000000
namespace Law
open PySem PySem.Spec PyProof.Rows L2 Cor LamX NdefX CwR
abbrev sTok8 : Stmt := topS 48
theorem scTok8 : FnScope ["_law_text_here", "_law_words", "_law_again"] ["_law_text_here"] (defScope sTok8) := ⟨rfl, rfl, rfl, by decide +kernel, rfl, by decide +kernel, by decide +kernel⟩
def blanksOk (x : Str) : Bool := !inV (.str "") ((wordsL x).map V.str) && !decide (10 ∈ x.cps.toList)
/-- the words, where blanks lie where they belong -/
def spTok8 : Sp := fun vs H Q _ => ∃ x : Str, vs = [.str x] ∧ x.length ≤ 200000 ∧ A7 x ∧ (blanksOk x = false → ∀ H', Same H H' → Q .non H') ∧ (blanksOk x = true → ∀ p H', H p = none → Same H H' → H' p = some (.lst ((wordsL x).map V.str)) → Q (.ref p) H')
section
variable {P : Program} {w : World} {K : PySem.W.Frag} {mg : Str → Option Value} {base : Heap}
theorem ok_tok8 {f : Addr} {fd : FuncData} (F : Fun K "_law_tokens" "_law_tokens" sTok8 f fd) (T : GloP K mg) : FnOk P w K mg base CX0 1 f fd ["_law_text_here"] spTok8 := by
  refine okT F scTok8 (k := 0) (by decide +kernel) (by decide) (fun vs H Q E h => ?_) (fun cdv A outer s H vs Q E hr h => ?_)
  · obtain ⟨x, rfl, _⟩ := h
    rfl
  · obtain ⟨x, rfl, hl, h7, q1, q2⟩ := h
    refine ⟨_, (psst_cons (pst_set (i := 1) scTok8.nd rfl (Or.inl rfl) (pet_split (pet_replT (pet_replC (pv 0))) pe_str))
      (psst_cons (pst_set (i := 2) scTok8.nd rfl (Or.inl rfl) (pet_replT (pet_replC (pe_join pe_str (pv 1)))))
      (psst_cons (PST.of (ps_ret (pe_ifExp (PW.pt (pw_and (pt_cmpR op_eq (pv 2) (pv 0) (nomark _)) (pw_and (pt_cmpR op_notIn_seq pe_str (pv 1) (by rfl)) (pw_and1 (pt_cmpR op_notIn_sign pe_str (pv 0) (by rfl)))))) (pv 1) pe_non)))
      psst_nil))), ?_⟩
    have e2 : (" )" : Str).length = 2 := by decide +kernel
    have e3 : ("( " : Str).length = 2 := by decide +kernel
    have e4 : ("(" : Str).length = 1 := by decide +kernel
    have e5 : (")" : Str).length = 1 := by decide +kernel
    have l1 := TK.replace_len x "(" "( "
    have l2 := TK.replace_len (Txt.replace x "(" "( ") ")" " )"
    have l3 := TK.replace_len (apartX x) "( " "("
    rw [e3] at l1
    rw [e2] at l2
    rw [e4] at l3
    have l0 : (apartX x).length ≤ 2000000 := Nat.le_trans l2 (by omega)
    have hz : x.length ≤ sizeLine := by rw [sizeLine_eq]; omega
    refine ⟨_, rfl, x, rfl, ?_, _, rfl, ?_, ⟨_, rfl⟩, _, _, rfl, rfl, by decide +kernel, ?_, fun p np => ?_⟩
    · rw [e3]; omega
    · rw [e2]; omega
    · have : (apartX x).length + 2 ≤ sizeLine := by rw [sizeLine_eq]; omega
      exact this
    · have s1 := same_upd (o := .lst ((wordsL x).map V.str)) np
      have e1 : (upd H p (.lst ((wordsL x).map V.str))) p = some (.lst ((wordsL x).map V.str)) := upd_same
      show gName 1 (.ref p) _ (upd H p (.lst ((wordsL x).map V.str))) _
      generalize upd H p (.lst ((wordsL x).map V.str)) = H1 at s1 e1 ⊢
      refine ⟨⟨_, rfl⟩, _, rfl, _, p, wordsL x, rfl, rfl, .inl (SqL.of e1), ?_, ?_⟩
      · have n1 := split_count one_blank (apartX x)
        have n2 : (Txt.join " " (wordsL x)).length = ((wordsL x).map (·.length)).sum + ((wordsL x).length - 1) * (" " : Str).length := size_glued " " (wordsL x)
        rw [wordsL_back] at n2
        have n3 : (wordsL x).length ≤ (apartX x).length + 1 := n1
        have e6 : (" " : Str).length = 1 := by decide +kernel
        rw [e6] at n2 ⊢
        omega
      · refine ⟨apartX x, congrArg V.str (wordsL_back x), by rw [e4]; omega, _, rfl, by rw [e5]; omega, ?_⟩
        rw [back_apart]
        refine ⟨_, rfl, _, rfl, ?_⟩
        refine ⟨rfl, _, rfl, ?_⟩
        rw [decide_eq_true rfl]
        refine ⟨_, rfl, p, _, rfl, .inl (SqL.of e1), rfl, L2.flat_strs _, _, rfl, ?_⟩
        have hb : blanksOk x = (!inV (.str "") ((wordsL x).map V.str) && !decide (10 ∈ x.cps.toList)) := rfl
        show (if (!inV (.str "") ((wordsL x).map V.str)) = true then _ else _)
        cases h1 : (!inV (.str "") ((wordsL x).map V.str)) with
        | false =>
          exact q1 (by rw [hb, h1]; rfl) _ s1
        | true =>
          refine ⟨_, rfl, 10, x, rfl, rfl, _, rfl, ?_⟩
          cases h2 : (!decide (10 ∈ x.cps.toList)) with
          | false => exact q1 (by rw [hb, h1, h2]; rfl) _ s1
          | true => exact ⟨_, rfl, q2 (by rw [hb, h1, h2]; rfl) p _ np s1 e1⟩
end
end Law
set_option Elab.async false
set_option linter.all false
set_option maxRecDepth 100000
set_option maxHeartbeats 1000000
namespace Law
open PySem PySem.Spec PyProof.Rows L2 Cor LamX NdefX
inductive Rv (H : Hp) : V → RT → Prop
  | lf (v : Lf) : Rv H v.v (.lf v)
  | st (s : Str) : A7 s → Rv H (.str s) (.st s)
  | nd {a : Addr} {n : Int} {y o : V} {ty to : RT} : H a = some (.tup [.int n, y, o]) → Rv H y ty → Rv H o to → Rv H (.ref a) (.nd n ty to)
theorem Rv.lf_of {H : Hp} {v : V} {l : Lf} (h : Rv H v (.lf l)) : v = l.v := by cases h; rfl
theorem Rv.st_of {H : Hp} {v : V} {s : Str} (h : Rv H v (.st s)) : v = .str s ∧ A7 s := by cases h; exact ⟨rfl, by assumption⟩
theorem Rv.nd_of {H : Hp} {v : V} {n : Int} {ty to : RT} (h : Rv H v (.nd n ty to)) : ∃ a y o, v = .ref a ∧ H a = some (.tup [.int n, y, o]) ∧ Rv H y ty ∧ Rv H o to := by
  cases h
  exact ⟨_, _, _, rfl, by assumption, by assumption, by assumption⟩
theorem Rv.same {H H' : Hp} (s : Same H H') : ∀ {r : RT} {v : V}, Rv H v r → Rv H' v r
  | .lf l, _, h => by rw [h.lf_of]; exact .lf l
  | .st x, _, h => by rw [h.st_of.1]; exact .st x h.st_of.2
  | .nd n y o, _, h => by
    obtain ⟨a, vy, vo, rfl, h1, h2, h3⟩ := h.nd_of
    exact .nd (s _ _ h1) (Rv.same s h2) (Rv.same s h3)
def isNd : RT → Bool
  | .nd _ _ _ => true
  | _ => false
theorem rv_tuple {K : PySem.W.Frag} {H : Hp} : ∀ {t : RT} {v : V}, Rv H v t → ∃ ty, TyX K H v ty ∧ PySem.W.kitOne K ty (.type "tuple") = some (isNd t)
  | .lf (.i n), _, h => by rw [h.lf_of]; exact ⟨_, .base (.int n), kit_ty (r := false) (by decide +kernel)⟩
  | .lf (.b n), _, h => by rw [h.lf_of]; exact ⟨_, .base (.bl n), kit_ty (r := false) (by decide +kernel)⟩
  | .st s, _, h => by rw [h.st_of.1]; exact ⟨_, .base (.str s), kit_ty (r := false) (by decide +kernel)⟩
  | .nd n ty to, _, h => by
    obtain ⟨a, y, o, rfl, h1, h2, h3⟩ := h.nd_of
    exact ⟨_, .base (.tup h1), kit_ty (r := true) (by decide +kernel)⟩
theorem rv_emb {H : Hp} : ∀ {t : Tr} {v : V}, Rv H v (emb t) → Tv H v t
  | .lf l, _, h => by rw [Rv.lf_of h]; exact .lf l
  | .nd n y o, _, h => by
    obtain ⟨a, vy, vo, rfl, h1, h2, h3⟩ := Rv.nd_of h
    exact .nd h1 (rv_emb h2) (rv_emb h3)
abbrev sDeep8 : Stmt := topS 51
theorem scDeep8 : FnScope ["_law_tree_here"] ["_law_tree_here"] (defScope sDeep8) := ⟨rfl, rfl, rfl, by decide +kernel, rfl, by decide +kernel, by decide +kernel⟩
def spDeep8 (m : Nat) : Sp := fun vs H Q _ => ∃ (v : V) (r : RT), vs = [v] ∧ Rv H v r ∧ depR r < m ∧ Q (.int (depR r : Nat)) H
section
variable {P : Program} {w : World} {K : PySem.W.Frag} {mg : Str → Option Value} {base : Heap}
theorem ok_deep8 {f : Addr} {fd : FuncData} (F : Fun K "_law_deep" "_law_deep" sDeep8 f fd) (T : GloW mg) (zmax : mg "max" = none) (hm : mg "_law_deep" = some (.ref f)) :
    ∀ m, FnOk P w K mg base CX0 (1 + m) f fd ["_law_tree_here"] (spDeep8 m) := by
  intro m
  induction m with
  | zero =>
    refine F.ok scDeep8 (k := 0) (fun vs H Q E h => ?_) (fun cdv A outer s H vs Q E hr h => ?_)
    · obtain ⟨v, t, rfl, _⟩ := h
      rfl
    · obtain ⟨v, t, rfl, _, hl, _⟩ := h
      omega
  | succ m IH =>
    have ih : Df P w K mg base "_law_deep" (1 + m) ["_law_tree_here"] (spDeep8 m) := ⟨f, fd, IH, hm, F.kp, F.binds fun _ _ _ _ _ _ us hl => match us, hl with | [_], _ => rfl⟩
    refine F.ok scDeep8 (k := 1 + m) (fun vs H Q E h => ?_) (fun cdv A outer s H vs Q E hr h => ?_)
    · obtain ⟨v, t, rfl, _⟩ := h
      rfl
    · obtain ⟨v, t, rfl, hv, hl, q⟩ := h
      refine ⟨_, (pss_one (ps_ret (pe_ifExp (pt_val (pe_callB (id := "isinstance") (show CallR _ (.builtin "isinstance") (rIsi K) from call_isi) (by rfl) T.isinstance (by decide +kernel) (pa_cons (pv 0) (pa_cons (pe_bltn (v := .ty "tuple") (by rfl) T.tuple (by decide +kernel) rfl) pa_nil)))) (pe_op op_add pe_int (pe_callB (call_max2 rfl) (by rfl) zmax (by decide +kernel) (pa_cons (pe_df (E := E0) ih hr (by rfl) (pa_cons (pe_ix ix_tup (pv 0) pe_int (fun _ _ => rfl)) pa_nil)) (pa_cons (pe_df (E := E0) ih hr (by rfl) (pa_cons (pe_ix ix_tup (pv 0) pe_int (fun _ _ => rfl)) pa_nil)) pa_nil)))) pe_int))), ?_⟩
      obtain ⟨ty, h1, h2⟩ := rv_tuple (K := K) hv
      refine ⟨_, rfl, _, _, _, _, _, rfl, .ty "tuple", h1, h2, ?_⟩
      cases t with
      | lf l => exact ⟨_, rfl, q⟩
      | st x => exact ⟨_, rfl, q⟩
      | nd n ty to =>
        obtain ⟨a, y, o, rfl, e1, e2, e3⟩ := hv.nd_of
        have hl : max (depR ty) (depR to) + 1 < m + 1 := hl
        refine ⟨_, rfl, _, rfl, a, _, _, _, rfl, rfl, SqT.of e1, rfl, _, ty, rfl, e2, by omega, _, rfl, a, _, _, _, rfl, rfl, SqT.of e1, rfl, _, to, rfl, e3, by omega, _, _, rfl, _, _, rfl, rfl, ?_⟩
        have e : (1 : Int) + (if ((depR to : Nat) : Int) > ((depR ty : Nat) : Int) then ((depR to : Nat) : Int) else ((depR ty : Nat) : Int)) = ((depR (.nd n ty to) : Nat) : Int) := by
          show _ = ((max (depR ty) (depR to) + 1 : Nat) : Int)
          split <;> omega
        rw [← e] at q
        exact q
end
end Law
set_option Elab.async false
set_option linter.all false
set_option maxRecDepth 100000
set_option maxHeartbeats 1000000
namespace Cor
open PySem PySem.Spec PyProof.Rows L2
section
variable {X : Cx}
def repS (x : Str) (k : Nat) : Str := ⟨(List.replicate k x.cps).foldl (· ++ ·) #[]⟩
end
end Cor
set_option Elab.async false
set_option linter.all false
set_option maxRecDepth 100000
set_option maxHeartbeats 1000000
namespace Cor
open PySem PySem.Spec PyProof.Rows L2
end Cor
set_option Elab.async false
set_option linter.all false
set_option maxRecDepth 100000
set_option maxHeartbeats 1000000
namespace Cor
open PySem PySem.Spec PyProof.Rows L2
section
variable {X : Cx}
theorem repS_one (z : Str) : repS z 1 = z := by
  unfold repS
  show (⟨#[] ++ z.cps⟩ : Str) = z
  rw [Array.empty_append]
theorem rep_len {z : Str} (h : z.length = 1) (k : Nat) : (repS z k).length = k := by
  have hl : ∀ (m : Nat) (acc : Array Nat), ((List.replicate m z.cps).foldl (· ++ ·) acc).size = acc.size + m := fun m => by
    induction m with
    | zero => intro acc; rfl
    | succ m ih =>
      intro acc
      rw [List.replicate_succ, List.foldl_cons, ih, Array.size_append]
      have : z.cps.size = 1 := h
      omega
  show ((List.replicate k z.cps).foldl (· ++ ·) #[]).size = k
  rw [hl]
  show 0 + k = k
  omega
end
end Cor
set_option Elab.async false
set_option linter.all false
set_option maxRecDepth 100000
set_option maxHeartbeats 1000000
namespace Cor
open PySem PySem.Spec PyProof.Rows L2
section
variable {X : Cx}
def rMulB0 : R2 := fun x y H Q => ∃ (z : Str) (k : Nat), x = .str z ∧ y = .int (k : Nat) ∧ 2 ≤ k ∧ k ≤ 100000 ∧ z.length = 1 ∧ Q (.str (repS z k)) H
theorem op_mulB0 : OpR X (binaryOp .Mult) rMulB0 := by
  intro pins s σ H x y v u Q I rx ry h
  obtain ⟨z, k, rfl, rfl, h2, h3, h1, q⟩ := h
  obtain ⟨t, rfl⟩ := rx
  obtain ⟨t', rfl⟩ := ry
  have hk1 : ¬ ((k : Nat) : Int) < 1 := by omega
  have hz : Builtin.Str.tooLong (z.length * ((k : Nat) : Int).toNat) = false := by
    rw [h1, Nat.one_mul, Int.toNat_natCast]
    unfold Builtin.Str.tooLong
    exact decide_eq_false (Nat.not_lt.mpr (Nat.le_trans h3 (by decide)))
  refine PySem.P.mul_str ?_ (fun _ _ => ?_) (fun _ _ => hz) ?_
  · rw [decide_eq_false (by omega), decide_eq_false (by omega)]
    rfl
  · rw [h1]
    have : (1 : Int) ≤ (2 ^ 63 - 1) / ((k : Nat) : Int) := by
      rw [Int.le_ediv_iff_mul_le (by omega)]
      omega
    intro z
    have z : (1 : Int) > (2 ^ 63 - 1) / ((k : Nat) : Int) := z
    omega
  · rw [if_neg hk1, if_neg]
    · refine ⟨?_, ⟨.str (repS z k), H, I.tok _, ⟨_, rfl⟩, q⟩⟩
      have hl : ∀ (m : Nat) (acc : Array Nat), ((List.replicate m z.cps).foldl (· ++ ·) acc).size = acc.size + m := fun m => by
        induction m with
        | zero => intro acc; rfl
        | succ m ih =>
          intro acc
          rw [List.replicate_succ, List.foldl_cons, ih, Array.size_append]
          have : z.cps.size = 1 := h1
          omega
      show ((List.replicate ((k : Nat) : Int).toNat z.cps).foldl (· ++ ·) #[]).size ≤ sizeLine
      rw [hl, Int.toNat_natCast]
      exact Nat.le_trans (show 0 + k ≤ 100000 by omega) (by decide)
    · rw [h1]
      have : ((k : Nat) : Int) ≠ 1 := by omega
      simp [this]
def rMulB : R2 := fun x y H Q => ∃ (z : Str) (k : Nat), x = .str z ∧ y = .int (k : Nat) ∧ k ≤ 100000 ∧ z.length = 1 ∧ Q (.str (repS z k)) H
theorem op_mulB : OpR X (binaryOp .Mult) rMulB := by
  intro pins s σ H x y v u Q I rx ry h
  obtain ⟨z, k, rfl, rfl, h3, h1, q⟩ := h
  by_cases h2 : 2 ≤ k
  · exact op_mulB0 pins s σ H _ _ v u Q I rx ry ⟨z, k, rfl, rfl, h2, h3, h1, q⟩
  · obtain ⟨t, rfl⟩ := rx
    obtain ⟨t', rfl⟩ := ry
    by_cases h0 : k = 0
    · subst h0
      exact PySem.P.mul_str_none (by decide) (by decide) ⟨.str Str.empty, H, I.tok _, ⟨_, rfl⟩, q⟩
    · have hk : k = 1 := by omega
      subst hk
      refine PySem.P.mul_str (by decide) (fun _ a => by simp at a) (fun _ a => by simp at a) ?_
      rw [if_neg (by decide), if_pos (by simp)]
      rw [repS_one] at q
      exact ⟨.str z, H, I, ⟨_, rfl⟩, q⟩
end
end Cor
set_option Elab.async false
set_option linter.all false
set_option maxRecDepth 100000
set_option maxHeartbeats 1000000
namespace Cor
open PySem PySem.Spec PyProof.Rows L2
section
variable {X : Cx}
def rCountN (K : PySem.W.Frag) : V → List V → Hp → VK → Prop := fun x vs H Q => ∃ l xs ds, x = .ref l ∧ vs = [.non] ∧ SqL K H l xs ∧ DpAll K H xs ds ∧ PyData.plainAll ds = true ∧ Q (.int ((ds.countP fun y => PyData.eqv y .none : Nat) : Int)) H
theorem mt_countN (hu : X.A.units + 1 < cLine) : MtM X "list.count" (rCountN X.K) := by
  intro pins s σ H x vs v us Q I rx rv h
  obtain ⟨l, xs, ds, rfl, rfl, hq, hd, hp, q⟩ := h
  cases rx
  obtain ⟨u, rfl, ru⟩ := rv.one
  cases ru
  obtain ⟨its, r, pl, hz⟩ := I.list hq
  obtain ⟨as, rs⟩ := Dp.readsAll I _ _ _ hd r
  refine PySem.SeqAt.count_list_data pl.isList (by simpa using rs) .none hp rfl (by show X.A.units + 1 + min _ 0 < cLine; rw [Nat.min_zero]; exact hu) ⟨.int _, H, I.tok _, ⟨_, rfl⟩, q⟩
end
end Cor
set_option Elab.async false
set_option linter.all false
set_option maxRecDepth 100000
set_option maxHeartbeats 1000000
namespace Cor
open PySem PySem.Spec PyProof.Rows L2
theorem _root_.L2.Room.units2 {k : Nat} {A : Around} (r : Room k A) : A.units + 195 < cLine := by have := r.un; omega
/-- str(x), x data -/
def strD : PyData → Str
  | .str x => x
  | d => d.shown
def rReprW (K : PySem.W.Frag) : List V → Hp → VK → Prop := fun xs H Q => ∃ (v : V) (d : PyData), xs = [v] ∧ Dp K H v d ∧ d.showable = true ∧ d.hasDict = false ∧ d.shown.length ≤ sizeLine ∧ d.depth ≤ 180 ∧ Q (.str d.shown) H
def rStrW (K : PySem.W.Frag) : List V → Hp → VK → Prop := fun xs H Q => ∃ (v : V) (d : PyData), xs = [v] ∧ Dp K H v d ∧ d.showable = true ∧ d.hasDict = false ∧ d.shown.length ≤ sizeLine ∧ d.depth ≤ 180 ∧ Q (.str (strD d)) H
theorem call_reprW {X : Cx} (gd : X.A.guards = some []) (hu : X.A.units + 195 < cLine) : CallR X (.builtin "repr") (rReprW X.K) := by
  intro pins s σ H xs us Q I r h
  obtain ⟨v, d, rfl, hd, hs, hn, hl, hdep, q⟩ := h
  cases r with
  | @cons _ u _ _ rx rr =>
    cases rr
    have hd0 := hd
    cases hd with
    | non =>
      cases rx
      exact PySem.P.repr_of_none ⟨.str "None", H, I.tok _, ⟨_, rfl⟩, q⟩
    | bl b =>
      cases rx
      exact PySem.P.repr_of_bool ⟨.str _, H, I.tok _, ⟨_, rfl⟩, q⟩
    | int i =>
      obtain ⟨t, rfl⟩ := rx
      exact PySem.P.repr_of_int (of_decide_eq_true hs) ⟨.str _, H, I.tok _, ⟨_, rfl⟩, q⟩
    | str x =>
      obtain ⟨t, rfl⟩ := rx
      exact PySem.P.repr_of_str ⟨.str _, H, I.tok _, ⟨_, rfl⟩, q⟩ hl
    | lst h1 h2 =>
      cases rx
      obtain ⟨as, rd⟩ := Dp.reads I _ _ _ hd0 rfl
      exact repr_of_reads' rd hs (fun z => by rw [hn] at z; cases z) gd (by omega) (fun _ _ z => z) (fun h' u tk k => ⟨.str _, H, I.kept (t' := tk) k, ⟨_, rfl⟩, q⟩) hl
    | tup h1 h2 =>
      cases rx
      obtain ⟨as, rd⟩ := Dp.reads I _ _ _ hd0 rfl
      exact repr_of_reads' rd hs (fun z => by rw [hn] at z; cases z) gd (by omega) (fun _ _ z => z) (fun h' u tk k => ⟨.str _, H, I.kept (t' := tk) k, ⟨_, rfl⟩, q⟩) hl
theorem call_strW {X : Cx} (gd : X.A.guards = some []) (hu : X.A.units + 195 < cLine) : CallR X (.type "str") (rStrW X.K) := by
  intro pins s σ H xs us Q I r h
  obtain ⟨v, d, rfl, hd, hs, hn, hl, hdep, q⟩ := h
  cases r with
  | @cons _ u _ _ rx rr =>
    cases rr
    have hd0 := hd
    cases hd with
    | non =>
      cases rx
      exact PySem.P.str_of_none ⟨.str "None", H, I.tok _, ⟨_, rfl⟩, q⟩
    | bl b =>
      cases rx
      exact PySem.P.str_of_bool ⟨.str _, H, I.tok _, ⟨_, rfl⟩, q⟩
    | int i =>
      obtain ⟨t, rfl⟩ := rx
      exact PySem.P.str_of_int (of_decide_eq_true hs) ⟨.str _, H, I.tok _, ⟨_, rfl⟩, q⟩
    | str x =>
      obtain ⟨t, rfl⟩ := rx
      exact PySem.P.str_of_str ⟨.str _, H, I, ⟨_, rfl⟩, q⟩
    | lst h1 h2 =>
      cases rx
      obtain ⟨as, rd⟩ := Dp.reads I _ _ _ hd0 rfl
      exact PySem.str_of_reads rd hs (fun z => by rw [hn] at z; cases z) gd (by omega) (fun _ _ z => z) (fun h' u tk k => ⟨.str _, H, I.kept (t' := tk) k, ⟨_, rfl⟩, q⟩) hl
    | tup h1 h2 =>
      cases rx
      obtain ⟨as, rd⟩ := Dp.reads I _ _ _ hd0 rfl
      exact PySem.str_of_reads rd hs (fun z => by rw [hn] at z; cases z) gd (by omega) (fun _ _ z => z) (fun h' u tk k => ⟨.str _, H, I.kept (t' := tk) k, ⟨_, rfl⟩, q⟩) hl
end Cor
set_option Elab.async false
set_option linter.all false
set_option maxRecDepth 100000
set_option maxHeartbeats 1000000
namespace Law
open PySem PySem.Spec PyProof.Rows L2 Cor LamX NdefX
/-- str(b) -/
theorem call_strBl {X : Cx} : CallR X (.type "str") (fun xs H Q => ∃ b, xs = [.bl b] ∧ Q (.str (if b then "True" else "False")) H) := by
  intro pins s σ H xs us Q I r h
  obtain ⟨b, rfl, q⟩ := h
  cases r with
  | @cons _ u _ _ rx rr =>
    cases rr
    cases rx
    exact PySem.P.str_of_bool ⟨.str _, H, I.tok _, ⟨_, rfl⟩, q⟩
theorem by_rest {α : Type} {T : α → Prop} {G : Prop} {C : α → Prop} (h : (∀ H4, C H4 → T H4) → G) (k : ∀ H4, C H4 → T H4) : G := h k
abbrev sKinds8 : Stmt := topS 50
theorem scKinds8 : FnScope ["_law_tree_here", "_law_found_here", "_law_case"] ["_law_tree_here"] (defScope sKinds8) := ⟨rfl, rfl, rfl, by decide +kernel, rfl, by decide +kernel, by decide +kernel⟩
theorem Rv.dp {K : PySem.W.Frag} {H : Hp} : ∀ {r : RT} {v : V}, Rv H v r → Dp K H v r.dd
  | .lf (.i n), _, h => by rw [h.lf_of]; exact .int n
  | .lf (.b n), _, h => by rw [h.lf_of]; exact .bl n
  | .st s, _, h => by rw [h.st_of.1]; exact .str s
  | .nd n y o, _, h => by
    obtain ⟨a, vy, vo, rfl, h1, h2, h3⟩ := h.nd_of
    exact .tup (SqT.of h1) (.cons (.int n) (.cons (Rv.dp h2) (.cons (Rv.dp h3) .nil)))
/-- it can be shown -/
def OkR1 (r : RT) : Prop := r.dd.showable = true ∧ r.dd.hasDict = false ∧ r.dd.shown.length ≤ sizeLine ∧ r.dd.depth ≤ 180 ∧ (kindsR r).length ≤ 10000
def OkR : RT → Prop
  | .nd n y o => OkR1 (.nd n y o) ∧ OkR y ∧ OkR o
  | r => OkR1 r
theorem OkR.one : ∀ {r : RT}, OkR r → OkR1 r
  | .lf _, h => h
  | .st _, h => h
  | .nd _ _ _, h => h.1
/-- the kinds: a new list -/
def spKinds8 (m : Nat) : Sp := fun vs H Q _ => ∃ (v : V) (r : RT), vs = [v] ∧ Rv H v r ∧ depR r < m ∧ OkR r ∧ ∀ p H', H p = none → Same H H' → H' p = some (.lst ((kindsR r).map V.str)) → Q (.ref p) H'
section
variable {P : Program} {w : World} {K : PySem.W.Frag} {mg : Str → Option Value} {base : Heap}
theorem ok_kinds8 {f : Addr} {fd : FuncData} (F : Fun K "_law_kinds" "_law_kinds" sKinds8 f fd) (T : GloW mg) (zrep : mg "repr" = none) (hm : mg "_law_kinds" = some (.ref f)) :
    ∀ m, FnG P w K mg base CX0 (1 + m) f fd ["_law_tree_here"] (spKinds8 m) := by
  intro m
  induction m with
  | zero =>
    refine okG F scKinds8 (k := 0) (fun vs H Q E h => ?_) (fun cdv A outer s H vs Q E hr gd h => ?_)
    · obtain ⟨v, t, rfl, _⟩ := h
      rfl
    · obtain ⟨v, t, rfl, _, hl, _⟩ := h
      omega
  | succ m IH =>
    have ih : DfG P w K mg base "_law_kinds" (1 + m) ["_law_tree_here"] (spKinds8 m) := ⟨f, fd, IH, hm, F.kp, F.binds fun _ _ _ _ _ _ us hl => match us, hl with | [_], _ => rfl⟩
    refine okG F scKinds8 (k := 1 + m) (fun vs H Q E h => ?_) (fun cdv A outer s H vs Q E hr gd h => ?_)
    · obtain ⟨v, t, rfl, _⟩ := h
      rfl
    · obtain ⟨v, t, rfl, hv, hl, ok, q⟩ := h
      refine ⟨_, (pss_cons (ps_if (pt_not (pt_val (pe_callB (id := "isinstance") (show CallR _ (.builtin "isinstance") (rIsi K) from call_isi) (by rfl) T.isinstance (by decide +kernel) (pa_cons (pv 0) (pa_cons (pe_bltn (v := .ty "tuple") (by rfl) T.tuple (by decide +kernel) rfl) pa_nil))))) (pss_one (ps_ret (pe_lst (pa_cons (pe_ifExp (pt_not (pt_val (pe_callB (id := "isinstance") (show CallR _ (.builtin "isinstance") (rIsi K) from call_isi) (by rfl) T.isinstance (by decide +kernel) (pa_cons (pv 0) (pa_cons (pe_bltn (v := .ty "str") (by rfl) T.str (by decide +kernel) rfl) pa_nil))))) (pe_callTy call_strBl (by rfl) T.str (by decide +kernel) (pa_cons (pe_callB (id := "isinstance") (show CallR _ (.builtin "isinstance") (rIsi K) from call_isi) (by rfl) T.isinstance (by decide +kernel) (pa_cons (pv 0) (pa_cons (pe_bltn (v := .ty "bool") (by rfl) T.bool (by decide +kernel) rfl) pa_nil))) pa_nil)) pe_str) pa_nil)))) pss_nil)
      (pss_cons (ps_set (i := 1) scKinds8.nd rfl (Or.inl rfl) (pe_op op_cat (pe_dfG (E := E0) ih hr gd (by rfl) (pa_cons (pe_ix ix_tup (pv 0) pe_int (fun _ _ => rfl)) pa_nil)) (pe_dfG (E := E0) ih hr gd (by rfl) (pa_cons (pe_ix ix_tup (pv 0) pe_int (fun _ _ => rfl)) pa_nil))))
      (pss_cons (ps_if (pt_cmpR op_eq (pe_callB (call_reprW gd hr.units2) (by rfl) zrep (by decide +kernel) (pa_cons (pe_ix ix_tup (pv 0) pe_int (fun _ _ => rfl)) pa_nil)) (pe_callB (call_reprW gd hr.units2) (by rfl) zrep (by decide +kernel) (pa_cons (pe_ix ix_tup (pv 0) pe_int (fun _ _ => rfl)) pa_nil)) (nomark _)) (pss_one (ps_expr (pe_bm PySem.F.plainAttrs_list PySem.F.slot_list_append PySem.F.type_list_append mt_append (pv 1) (pa_cons pe_str pa_nil)))) pss_nil)
      (pss_cons (ps_for PassesOwn.never rfl (pi_tup (pe_slice sl_tup (pv 0) (po_some pe_int) po_none)) (pg_name (i := 2) scKinds8.nd rfl (Or.inl rfl)) (pss_one (ps_expr (pe_bm PySem.F.plainAttrs_list PySem.F.slot_list_extend PySem.F.type_list_extend mt_extend (pv 1) (pa_cons (pe_op op_rep (pe_lst (pa_cons pe_str pa_nil)) (pe_callTy call_int1 (by rfl) T.int (by decide +kernel) (pa_cons (pe_and (pe_callB (id := "isinstance") (show CallR _ (.builtin "isinstance") (rIsi K) from call_isi) (by rfl) T.isinstance (by decide +kernel) (pa_cons (pv 2) (pa_cons (pe_bltn (v := .ty "tuple") (by rfl) T.tuple (by decide +kernel) rfl) pa_nil))) (pe_one (pe_cmpR op_le (pe_ix ix_tup (pv 2) pe_int (fun _ _ => rfl)) (pe_ix ix_tup (pv 0) pe_int (fun _ _ => rfl)) (nomark _)))) pa_nil))) pa_nil)))))
      (pss_one (ps_ret (pv 1))))))), ?_⟩
      obtain ⟨ty, h1, h2⟩ := rv_tuple (K := K) hv
      refine ⟨_, rfl, _, _, _, _, _, rfl, .ty "tuple", h1, h2, ?_⟩
      cases t with
      | lf l =>
        obtain rfl := hv.lf_of
        refine ⟨_, rfl, iteT ?_⟩
        cases l with
        | i n =>
          refine ⟨_, rfl, _, _, _, _, _, rfl, .ty "str", .base (.int n), kit_ty (r := false) (by decide +kernel), _, rfl, ?_⟩
          refine iteT ⟨_, rfl, _, _, _, _, _, rfl, .ty "bool", .base (.int n), kit_ty (r := false) (by decide +kernel), _, rfl, (by show 1 ≤ sizeLine; decide), fun p np => ?_⟩
          exact q p _ np (same_upd np) upd_same
        | b n =>
          refine ⟨_, rfl, _, _, _, _, _, rfl, .ty "str", .base (.bl n), kit_ty (r := false) (by decide +kernel), _, rfl, ?_⟩
          refine iteT ⟨_, rfl, _, _, _, _, _, rfl, .ty "bool", .base (.bl n), kit_ty (r := true) (by decide +kernel), _, rfl, (by show 1 ≤ sizeLine; decide), fun p np => ?_⟩
          exact q p _ np (same_upd np) upd_same
      | st x =>
        obtain ⟨rfl, hx⟩ := hv.st_of
        refine ⟨_, rfl, iteT ?_⟩
        refine ⟨_, rfl, _, _, _, _, _, rfl, .ty "str", .base (.str x), kit_ty (r := true) (by decide +kernel), _, rfl, ?_⟩
        refine iteF ⟨(by show 1 ≤ sizeLine; decide), fun p np => ?_⟩
        exact q p _ np (same_upd np) upd_same
      | nd n ty to =>
        obtain ⟨a, y, o, rfl, e1, e2, e3⟩ := hv.nd_of
        have hl : max (depR ty) (depR to) + 1 < m + 1 := hl
        obtain ⟨k1, k2, k3⟩ := ok
        refine ⟨_, rfl, iteF ?_⟩
        refine ⟨_, rfl, a, _, _, _, rfl, rfl, SqT.of e1, rfl, _, ty, rfl, e2, by omega, k2, fun p1 H1 n1 s1 l1 => ?_⟩
        have e1' := s1 _ _ e1
        refine ⟨_, rfl, a, _, _, _, rfl, rfl, SqT.of e1', rfl, _, to, rfl, e3.same s1, by omega, k3, fun p2 H2 n2 s2 l2 => ?_⟩
        have hkl : (kindsR (.nd n ty to)).length = (kindsR ty).length + (kindsR to).length + (if ty.dd.shown = to.dd.shown then [("same" : Str)] else []).length + (ordR n ty ++ ordR n to).length := by
          show (kindsR ty ++ kindsR to ++ (if ty.dd.shown = to.dd.shown then [("same" : Str)] else []) ++ (ordR n ty ++ ordR n to)).length = _
          rw [List.length_append, List.length_append, List.length_append]
        have hk5 := k1.2.2.2.2
        refine ⟨p1, p2, _, _, rfl, rfl, s2 _ _ l1, l2, by rw [List.length_map, List.length_map, sizeLine_eq]; omega, fun L nL => ?_⟩
        have sN : ∀ {b : Addr} {ob : HO}, H b = some ob → b ≠ L := fun e z => by
          rw [z] at e
          rw [s2 _ _ (s1 _ _ e)] at nL
          cases nL
        have nLH : H L = none := by
          cases hz : H L with
          | none => rfl
          | some ob => exact absurd rfl (sN hz)
        have s3 : Same H (upd H2 L (.lst ((kindsR ty ++ kindsR to).map V.str))) := fun b ob e => by
          rw [upd_ne (sN e)]
          exact s2 _ _ (s1 _ _ e)
        have eL : (upd H2 L (.lst ((kindsR ty ++ kindsR to).map V.str))) L = some (.lst ((kindsR ty ++ kindsR to).map V.str)) := upd_same
        rw [← List.map_append]
        generalize upd H2 L (.lst ((kindsR ty ++ kindsR to).map V.str)) = H3 at s3 eL ⊢
        obtain ⟨r1, r2, r3, r4, _⟩ := k2.one
        obtain ⟨r5, r6, r7, r8, _⟩ := k3.one
        refine ⟨_, rfl, a, _, _, _, rfl, rfl, SqT.of (s3 _ _ e1), rfl, y, ty.dd, rfl, (e2.same s3).dp, r1, r2, r3, r4, ?_⟩
        refine ⟨_, rfl, a, _, _, _, rfl, rfl, SqT.of (s3 _ _ e1), rfl, o, to.dd, rfl, (e3.same s3).dp, r5, r6, r7, r8, rfl, _, rfl, ?_⟩
        have nL3 : a ≠ L := fun z => absurd z (sN e1)
        apply by_rest (C := fun H4 => Same H H4 ∧ H4 L = some (.lst ((kindsR ty ++ kindsR to ++ (if ty.dd.shown = to.dd.shown then [("same" : Str)] else [])).map V.str)))
        · intro kk
          refine ite2 (fun hb => ?_) (fun hb => ?_)
          rotate_left
          · have hs : ¬ ty.dd.shown = to.dd.shown := fun z => hb (decide_eq_true (by rw [z]))
            exact kk H3 ⟨s3, by rw [if_neg hs, List.append_nil]; exact eL⟩
          · refine ⟨_, rfl, .inl ⟨rfl, _, SqL.of eL⟩, L, _, _, rfl, rfl, eL, by rw [List.length_map, List.length_append, sizeLine_eq]; omega, ?_⟩
            have hs : ty.dd.shown = to.dd.shown := V.str.inj (of_decide_eq_true hb)
            refine kk _ ⟨fun b ob e => ?_, ?_⟩
            · rw [upd_ne (sN e)]
              exact s3 _ _ e
            · rw [upd_same, if_pos hs, List.map_append (l₁ := kindsR ty ++ kindsR to)]
              rfl
        · rintro H4 ⟨s4, e4⟩
          refine ⟨_, rfl, _, rfl, a, _, rfl, SqT.of (s4 _ _ e1), ?_, fun T nT => ?_⟩
          · rintro ⟨z, _⟩
            exact absurd (show HT.sIx 3 0 (some 1) = 0 from z) (by decide)
          have sT : ∀ {b : Addr} {ob : HO}, H4 b = some ob → b ≠ T := fun e z => by
            rw [z, nT] at e
            cases e
          have s5 : Same H (upd H4 T (.tup [y, o])) := fun b ob e => by
            rw [upd_ne (sT (s4 _ _ e))]
            exact s4 _ _ e
          have eT : (upd H4 T (.tup [y, o])) T = some (.tup [y, o]) := upd_same
          have e5 : (upd H4 T (.tup [y, o])) L = _ := (upd_ne (sT e4)).trans e4
          have hTL : T ≠ L := fun z => sT e4 z.symm
          refine ⟨T, rfl, ⟨[y, o], SqT.of eT⟩, ?_⟩
          show ∃ W : Nat → Nat → L2.St → Hp → Prop, (∃ m, W 0 m _ (upd H4 T (.tup [y, o]))) ∧ _
          generalize upd H4 T (.tup [y, o]) = H5 at s5 eT e5 ⊢
          refine for_tup (xs := [y, o]) (fun i σ H' => (∃ z, σ = [some (.ref a), some (.ref L), z]) ∧ Same H H' ∧ H' T = some (.tup [y, o]) ∧ H' L = some (.lst ((kindsR ty ++ kindsR to ++ (if ty.dd.shown = to.dd.shown then [("same" : Str)] else []) ++ (if i = 0 then [] else if i = 1 then ordR n ty else ordR n ty ++ ordR n to)).map V.str))) ?_ ?_ ?_ ?_
          · refine ⟨⟨_, rfl⟩, s5, eT, ?_⟩
            rw [if_pos rfl, List.append_nil]
            exact e5
          · rintro i σ H6 _ ⟨_, _, e, _⟩
            exact SqT.of e
          · rintro i x σ H6 hx ⟨⟨z, rfl⟩, s6, eT6, eL6⟩
            obtain ⟨r, hr6, hi, acc⟩ : ∃ r, Rv H6 x r ∧ i ≤ 1 ∧ (if i + 1 = 0 then [] else if i + 1 = 1 then ordR n ty else ordR n ty ++ ordR n to) = (if i = 0 then [] else if i = 1 then ordR n ty else ordR n ty ++ ordR n to) ++ ordR n r := by
              match i, hx with
              | 0, hx => cases hx; exact ⟨ty, e2.same s6, by omega, rfl⟩
              | 1, hx => cases hx; exact ⟨to, e3.same s6, by omega, rfl⟩
              | _ + 2, hx => exact nomatch hx
            have hacc : (if i = 0 then [] else if i = 1 then ordR n ty else ordR n ty ++ ordR n to).length ≤ (ordR n ty ++ ordR n to).length := by
              match i, hi with
              | 0, _ => exact Nat.zero_le _
              | 1, _ => show (ordR n ty).length ≤ _; rw [List.length_append]; omega
            refine ⟨_, rfl, .inl ⟨rfl, _, SqL.of eL6⟩, (by show 1 ≤ sizeLine; decide), fun p np => ?_⟩
            have s7 : Same H6 (upd H6 p (.lst [.str "order"])) := same_upd np
            have ep : (upd H6 p (.lst [.str "order"])) p = some (.lst [.str "order"]) := upd_same
            have eL7 := s7 _ _ eL6
            have eT7 := s7 _ _ eT6
            have pL : p ≠ L := fun z => by rw [z, eL6] at np; cases np
            have r7 := hr6.same s7
            refine (?_ : tAndV _ _ _ (upd H6 p (.lst [.str "order"])) _)
            generalize upd H6 p (.lst [.str "order"]) = H7 at s7 ep eL7 eT7 r7 ⊢
            apply by_rest (C := fun k : Bool => ordR n r = (if k = true then [("order" : Str)] else []))
            · intro kk
              obtain ⟨t2, g1, g2⟩ := rv_tuple (K := K) r7
              have split : (∃ n2 y2 o2, r = .nd n2 y2 o2) ∨ (isNd r = false ∧ ordR n r = []) := by
                cases r with
                | lf l => exact .inr ⟨rfl, rfl⟩
                | st x2 => exact .inr ⟨rfl, rfl⟩
                | nd n2 y2 o2 => exact .inl ⟨_, _, _, rfl⟩
              rcases split with ⟨n2, y2, o2, hr2⟩ | ⟨hn, ho⟩
              · have r7' := hr2 ▸ r7
                obtain ⟨a2, v2, w2, hx2, g3, g4, g5⟩ := r7'.nd_of
                have ea7 := s7 _ _ (s6 _ _ e1)
                rw [hr2] at g2
                refine ⟨_, rfl, _, _, _, _, _, rfl, .ty "tuple", g1, g2, ?_⟩
                refine ⟨_, rfl, _, rfl, a2, _, _, _, hx2, rfl, SqT.of g3, rfl, _, rfl, a, _, _, _, rfl, rfl, SqT.of ea7, rfl, _, _, rfl, rfl, .inr ⟨_, rfl, ?_⟩⟩
                have hk : ordR n r = (if decide (n2 ≤ n) = true then [("order" : Str)] else []) := by
                  rw [hr2]
                  show (if n2 ≤ n then [("order" : Str)] else []) = _
                  by_cases h : n2 ≤ n
                  · rw [if_pos h, if_pos (decide_eq_true h)]
                  · rw [if_neg h, if_neg (fun z => h (of_decide_eq_true z))]
                generalize decide (n2 ≤ n) = k at hk ⊢
                exact kk k hk
              · rw [hn] at g2
                refine ⟨_, rfl, _, _, _, _, _, rfl, .ty "tuple", g1, g2, ?_⟩
                exact ⟨_, rfl, .inr ⟨false, rfl, kk false (by rw [ho]; rfl)⟩⟩
            · intro k hk
              have hfl : (List.replicate (if k = true then (1 : Int) else 0).toNat [V.str "order"]).flatten = (ordR n r).map V.str := by
                rw [hk]
                cases k <;> rfl
              have hol : (ordR n r).length ≤ 1 := by
                rw [hk]
                cases k <;> decide
              refine ⟨p, _, _, rfl, rfl, ep, by cases k <;> decide, by cases k <;> decide, by cases k <;> decide, fun p2 n2 => ?_⟩
              have s8 := same_upd (o := .lst ((List.replicate (if k = true then (1 : Int) else 0).toNat [V.str "order"]).flatten)) n2
              have p2L : p2 ≠ L := fun z => by rw [z, eL7] at n2; cases n2
              refine ⟨L, p2, _, _, rfl, rfl, s8 _ _ eL7, upd_same, ?_, ⟨_, rfl⟩, fun b ob e => ?_, ?_, ?_⟩
              · rw [hfl, List.length_map, List.length_map, List.length_append, List.length_append, List.length_append, sizeLine_eq]
                omega
              · rw [upd_ne (sN e)]
                exact s8 _ _ (s7 _ _ (s6 _ _ e))
              · rw [upd_ne hTL]
                exact s8 _ _ eT7
              · rw [upd_same, acc, hfl, ← List.map_append, List.append_assoc]
          · rintro σ H6 ⟨⟨z, rfl⟩, s6, eT6, eL6⟩
            exact ⟨_, rfl, q L _ nLH s6 eL6⟩
end
end Law
set_option Elab.async false
set_option linter.all false
set_option maxRecDepth 100000
set_option maxHeartbeats 1000000
namespace Law
open PySem PySem.Spec PyProof.Rows L2 Cor
def BdR : RT → Prop
  | .lf (.i n) => n.natAbs < 10 ^ 20
  | .lf (.b _) => True
  | .st s => s = "(" ∨ s = "?" ∨ s = ":"
  | .nd n y o => n.natAbs < 10 ^ 20 ∧ BdR y ∧ BdR o
def wtR : RT → Nat
  | .nd _ y o => 1 + wtR y + wtR o
  | _ => 1
theorem showable_R : ∀ {r : RT}, BdR r → r.dd.showable = true ∧ r.dd.hasDict = false ∧ r.dd.depth = depR r
  | .lf (.i n), h => ⟨decide_eq_true (log_small h), rfl, rfl⟩
  | .lf (.b _), _ => ⟨rfl, rfl, rfl⟩
  | .st _, _ => ⟨rfl, rfl, rfl⟩
  | .nd n y o, h => by
    obtain ⟨h1, h2, h3⟩ := h
    obtain ⟨a1, a2, a3⟩ := showable_R h2
    obtain ⟨b1, b2, b3⟩ := showable_R h3
    refine ⟨?_, ?_, ?_⟩
    · show (PyData.showable (.int n) && (y.dd.showable && (o.dd.showable && true))) = true
      rw [a1, b1, show PyData.showable (.int n) = true from decide_eq_true (log_small h1)]
      rfl
    · show (PyData.hasDict (.int n) || (y.dd.hasDict || (o.dd.hasDict || false))) = false
      rw [a2, b2]
      rfl
    · show max 0 (max y.dd.depth (max o.dd.depth 0)) + 1 = max (depR y) (depR o) + 1
      rw [a3, b3]
      omega
theorem kinds_len : ∀ r : RT, (kindsR r).length ≤ 4 * wtR r
  | .lf _ => by show 1 ≤ 4 * 1; omega
  | .st _ => by show 1 ≤ 4 * 1; omega
  | .nd n y o => by
    have h1 := kinds_len y
    have h2 := kinds_len o
    have o1 : ∀ r : RT, (ordR n r).length ≤ 1 := fun r => by
      cases r with
      | lf _ => exact Nat.zero_le _
      | st _ => exact Nat.zero_le _
      | nd m _ _ =>
        show (if m ≤ n then [("order" : Str)] else []).length ≤ 1
        split <;> decide
    have o2 := o1 y
    have o3 := o1 o
    show (kindsR y ++ kindsR o ++ (if y.dd.shown = o.dd.shown then [("same" : Str)] else []) ++ (ordR n y ++ ordR n o)).length ≤ 4 * (1 + wtR y + wtR o)
    have h3 : (if y.dd.shown = o.dd.shown then [("same" : Str)] else []).length ≤ 1 := by split <;> decide
    rw [List.length_append, List.length_append, List.length_append, List.length_append]
    omega
theorem dep_wt : ∀ r : RT, depR r + 1 ≤ wtR r
  | .lf _ => Nat.le_refl _
  | .st _ => Nat.le_refl _
  | .nd _ y o => by
    have h1 := dep_wt y
    have h2 := dep_wt o
    show max (depR y) (depR o) + 1 + 1 ≤ 1 + wtR y + wtR o
    omega
theorem shown_ndR (n : Int) (y o : RT) : sgn (RT.nd n y o).dd.shown = 40 :: (sgn (Str.ofString (toString n)) ++ 44 :: 32 :: (sgn y.dd.shown ++ 44 :: 32 :: (sgn o.dd.shown ++ [41]))) := by
  have e : (RT.nd n y o).dd = .tuple [.int n, y.dd, o.dd] := rfl
  rw [e, PyData.shown_tuple, PyData.shownAll_cons, PyData.shownAll_cons, PyData.shownAll_cons, PyData.shownAll_nil, PyData.shown_int]
  have s1 : sgn (Str.ofString "(") = [40] := by decide +kernel
  have s2 : sgn (Str.ofString ", ") = [44, 32] := by decide +kernel
  have s3 : sgn (Str.ofString ")") = [41] := by decide +kernel
  have l3 : ([PyData.int n, y.dd, o.dd].length == 1) = false := rfl
  rw [l3]
  simp only [Str.join, Bool.false_eq_true, if_false, sgn_append, s1, s2, s3]
  simp
theorem shown_len : ∀ {r : RT}, BdR r → (sgn r.dd.shown).length ≤ 40 * wtR r
  | .lf (.i n), h => by
    have h1 := (big_num h).2.1
    have h2 : (sgn (Str.ofString (toString n))).length ≤ 21 := by
      rw [show (sgn (Str.ofString (toString n))).length = (num8 n).length from len_cps _]
      exact h1
    show (sgn (Str.ofString (toString n))).length ≤ 40 * 1
    omega
  | .lf (.b b), _ => by cases b <;> decide +kernel
  | .st s, h => by
    rcases h with rfl | rfl | rfl <;> decide +kernel
  | .nd n y o, h => by
    obtain ⟨h1, h2, h3⟩ := h
    have a := shown_len h2
    have b := shown_len h3
    have h1 := (big_num h1).2.1
    have h2 : (sgn (Str.ofString (toString n))).length ≤ 21 := by
      rw [show (sgn (Str.ofString (toString n))).length = (num8 n).length from len_cps _]
      exact h1
    rw [shown_ndR]
    simp only [List.length_cons, List.length_append, List.length_nil]
    show _ ≤ 40 * (1 + wtR y + wtR o)
    omega
theorem ok_R : ∀ {r : RT}, BdR r → wtR r ≤ 2500 → depR r ≤ 180 → OkR r := fun {r} h w d => by
  have one : ∀ {r : RT}, BdR r → wtR r ≤ 2500 → depR r ≤ 180 → OkR1 r := fun {r} h w d => by
    obtain ⟨a1, a2, a3⟩ := showable_R h
    have l := shown_len h
    have k := kinds_len r
    refine ⟨a1, a2, ?_, by omega, by omega⟩
    have : (sgn r.dd.shown).length = r.dd.shown.length := len_cps _
    rw [← this, sizeLine_eq]
    omega
  induction r with
  | lf _ => exact one h w d
  | st _ => exact one h w d
  | nd n y o ih1 ih2 =>
    have w' : 1 + wtR y + wtR o ≤ 2500 := w
    have d' : max (depR y) (depR o) + 1 ≤ 180 := d
    exact ⟨one h w d, ih1 h.2.1 (by omega) (by omega), ih2 h.2.2 (by omega) (by omega)⟩
end Law
set_option Elab.async false
set_option linter.all false
set_option maxRecDepth 100000
set_option maxHeartbeats 1000000
namespace Law
open PySem PySem.Spec PyProof.Rows L2 Cor
def noSt : RT → Bool
  | .st _ => false
  | _ => true
def okV : SV → Prop
  | .w s => s = "(" ∨ s = "?" ∨ s = ":"
  | .n => True
  | .t r => BdR r ∧ noSt r = true
def wtV : SV → Nat
  | .t r => wtR r
  | _ => 1
def dpV : SV → Nat
  | .t r => depR r
  | _ => 0
structure StOk (S : List SV) (k c : Nat) : Prop where
  ok : ∀ s ∈ S, okV s ∧ dpV s ≤ c
  wt : (S.map wtV).sum ≤ k
theorem wtR_pos : ∀ r : RT, 1 ≤ wtR r := fun r => by have := dep_wt r; omega
theorem wtV_pos : ∀ s : SV, 1 ≤ wtV s
  | .w _ => Nat.le_refl _
  | .n => Nat.le_refl _
  | .t r => wtR_pos r
theorem StOk.len {S : List SV} {k c : Nat} (h : StOk S k c) : S.length ≤ k := by
  refine Nat.le_trans ?_ h.wt
  have : ∀ l : List SV, l.length ≤ (l.map wtV).sum := fun l => by
    induction l with
    | nil => exact Nat.zero_le _
    | cons a r ih =>
      have := wtV_pos a
      show r.length + 1 ≤ wtV a + (r.map wtV).sum
      omega
  exact this S
theorem leaf_bd {w : Str} {l : Lf} (h : leafT w = some l) : BdR (.lf l) := by
  unfold leafT at h
  split at h
  · cases h; exact True.intro
  · split at h
    · cases h; exact True.intro
    · cases e : numT w with
      | none => rw [e] at h; cases h
      | some n =>
        rw [e] at h
        cases h
        exact num_small e
theorem item_ok (w : Str) : okV (itemOf w) ∧ dpV (itemOf w) = 0 ∧ wtV (itemOf w) = 1 := by
  unfold itemOf
  split
  · rename_i h
    exact ⟨h, rfl, rfl⟩
  · cases e : leafT w with
    | none => exact ⟨True.intro, rfl, rfl⟩
    | some l => exact ⟨⟨leaf_bd e, rfl⟩, rfl, rfl⟩
theorem asRT_ok {s : SV} {r : RT} (h : asRT s = some r) (o : okV s) : BdR r ∧ depR r = dpV s ∧ wtR r = wtV s := by
  cases s with
  | w x => cases h; exact ⟨o, rfl, rfl⟩
  | n => cases h
  | t q => cases h; exact ⟨o.1, rfl, rfl⟩
theorem fold_ok {L : List SV} {r : RT} {c : Nat} (h : foldL L = some r) (o : ∀ s ∈ L, okV s ∧ dpV s ≤ c) : (BdR r ∧ noSt r = true) ∧ depR r ≤ c + 1 ∧ wtR r ≤ (L.map wtV).sum := by
  unfold foldL at h
  split at h
  · rename_i a n b y d e
    split at h
    · cases hn : numOf n with
      | none => rw [hn] at h; cases h
      | some i =>
        rw [hn] at h
        cases hy : asRT y with
        | none => rw [hy] at h; cases h
        | some ry =>
          rw [hy] at h
          cases he : asRT e with
          | none => rw [he] at h; cases h
          | some re =>
            rw [he] at h
            cases h
            have oy := o y (by simp)
            have oe := o e (by simp)
            have on := (o n (by simp)).1
            obtain ⟨y1, y2, y3⟩ := asRT_ok hy oy.1
            obtain ⟨e1, e2, e3⟩ := asRT_ok he oe.1
            have hi : i.natAbs < 10 ^ 20 := by
              unfold numOf at hn
              split at hn
              · split at hn
                · cases hn; exact on.1
                · cases hn
              · cases hn
            refine ⟨⟨⟨hi, y1, e1⟩, rfl⟩, ?_, ?_⟩
            · show max (depR ry) (depR re) + 1 ≤ c + 1
              omega
            · have p1 := wtV_pos a
              show 1 + wtR ry + wtR re ≤ wtV a + (wtV n + (wtV b + (wtV y + (wtV d + (wtV e + 0)))))
              omega
    · cases h
  · cases h
theorem step_ok {S S' : List SV} {w : Str} {k c : Nat} (h : StOk S k c) (e : stepL S w = some S') : StOk S' (k + 1) (if w = ")" then c + 1 else c) := by
  unfold stepL at e
  by_cases hw : w = ")"
  · rw [if_neg (fun z => z hw)] at e
    rw [if_pos hw]
    cases hf : foldL (S.drop (S.length - 6)) with
    | none => rw [hf] at e; cases e
    | some r =>
      rw [hf] at e
      cases e
      obtain ⟨a1, a2, a3⟩ := fold_ok hf fun s hs => h.ok s (List.mem_of_mem_drop hs)
      have hw2 : ((S.take (S.length - 6)).map wtV).sum + ((S.drop (S.length - 6)).map wtV).sum = (S.map wtV).sum := by
        rw [← List.sum_append, ← List.map_append, List.take_append_drop]
      have := h.wt
      refine ⟨fun s hs => ?_, ?_⟩
      · rcases List.mem_append.mp hs with hs | hs
        · have := h.ok s (List.mem_of_mem_take hs)
          exact ⟨this.1, by omega⟩
        · rw [List.mem_singleton.mp hs]
          exact ⟨a1, a2⟩
      · rw [List.map_append, List.sum_append]
        show _ + (wtR r + 0) ≤ k + 1
        omega
  · rw [if_pos hw] at e
    rw [if_neg hw]
    cases e
    obtain ⟨a1, a2, a3⟩ := item_ok w
    have := h.wt
    refine ⟨fun s hs => ?_, ?_⟩
    · rcases List.mem_append.mp hs with hs | hs
      · exact h.ok s hs
      · rw [List.mem_singleton.mp hs]
        exact ⟨a1, by omega⟩
    · rw [List.map_append, List.sum_append]
      show _ + (wtV (itemOf w) + 0) ≤ k + 1
      omega
/-- how many words close -/
def clW (ws : List Str) : Nat := ws.countP fun (w : Str) => decide (w = (")" : Str))
theorem run_ok : ∀ {ws : List Str} {S S' : List SV} {k c : Nat}, StOk S k c → runL S ws = some S' → StOk S' (k + ws.length) (c + clW ws)
  | [], S, S', k, c, h, e => by cases e; exact h
  | w :: r, S, S', k, c, h, e => by
    have e : (match stepL S w with | some S' => runL S' r | none => none) = some S' := e
    cases hs : stepL S w with
    | none => rw [hs] at e; cases e
    | some S1 =>
      rw [hs] at e
      have := run_ok (step_ok h hs) e
      have ec : (if w = ")" then c + 1 else c) + clW r = c + clW (w :: r) := by
        unfold clW
        rw [List.countP_cons]
        by_cases hw : w = ")"
        · rw [if_pos hw, if_pos (decide_eq_true hw)]; omega
        · rw [if_neg hw, if_neg (fun z => hw (of_decide_eq_true z))]; omega
      rw [ec, show k + 1 + r.length = k + (w :: r).length from by simp only [List.length_cons]; omega] at this
      exact this
end Law
set_option Elab.async false
set_option linter.all false
set_option maxRecDepth 100000
set_option maxHeartbeats 1000000
namespace Law
open PySem PySem.Spec PyProof.Rows L2 Cor
def ddV : SV → PyData
  | .w s => .str s
  | .n => .none
  | .t r => r.dd
def strV (s : SV) : Str := strD (ddV s)
def Sgn3 (x : Str) : Prop := x = "(" ∨ x = "?" ∨ x = ":"
theorem strV_int {n : Int} (h : n.natAbs < 10 ^ 20) {x : Str} (hx : Sgn3 x) : num8 n ≠ x := fun z => by
  have hb := (big_num h).2.2
  rw [z] at hb
  rcases hx with rfl | rfl | rfl
  · have := hb 40 (by decide +kernel); omega
  · have := hb 63 (by decide +kernel); omega
  · have := hb 58 (by decide +kernel); omega
theorem strV_is {s : SV} (o : okV s) {x : Str} (hx : Sgn3 x) : decide (strV s = x) = isW x s := by
  cases s with
  | w y => rfl
  | n => rcases hx with rfl | rfl | rfl <;> decide +kernel
  | t r =>
    show decide (strV (.t r) = x) = false
    refine decide_eq_false fun z => ?_
    cases r with
    | st y => exact absurd (show false = true from o.2) (by decide)
    | lf l =>
      cases l with
      | i n => exact strV_int o.1 hx z
      | b v => rcases hx with rfl | rfl | rfl <;> cases v <;> exact absurd z (by decide +kernel)
    | nd n a b =>
      have z : (RT.nd n a b).dd.shown = x := z
      have e := shown_ndR n a b
      rw [z] at e
      have := congrArg List.length e
      simp only [List.length_cons, List.length_append, List.length_nil] at this
      rcases hx with rfl | rfl | rfl
      · rw [show (sgn ("(" : Str)).length = 1 from by decide +kernel] at this; omega
      · rw [show (sgn ("?" : Str)).length = 1 from by decide +kernel] at this; omega
      · rw [show (sgn (":" : Str)).length = 1 from by decide +kernel] at this; omega
theorem ddV_ok {s : SV} (o : okV s) (hd : dpV s ≤ 170) (hw : wtV s ≤ 2500) : (ddV s).showable = true ∧ (ddV s).hasDict = false ∧ (ddV s).shown.length ≤ sizeLine ∧ (ddV s).depth ≤ 180 ∧ (strV s).length ≤ 200000 := by
  cases s with
  | w y => rcases o with rfl | rfl | rfl <;> refine ⟨by decide +kernel, by decide +kernel, Nat.le_trans (show _ ≤ 10 by decide +kernel) (by rw [sizeLine_eq]; omega), by decide +kernel, by decide +kernel⟩
  | n => refine ⟨by decide +kernel, by decide +kernel, Nat.le_trans (show _ ≤ 10 by decide +kernel) (by rw [sizeLine_eq]; omega), by decide +kernel, by decide +kernel⟩
  | t r =>
    obtain ⟨a1, a2, a3⟩ := showable_R o.1
    have lsh := shown_len o.1
    have hd : depR r ≤ 170 := hd
    have hw : wtR r ≤ 2500 := hw
    have : (sgn r.dd.shown).length = r.dd.shown.length := len_cps _
    refine ⟨a1, a2, ?_, ?_, ?_⟩
    · show r.dd.shown.length ≤ _
      rw [← this, sizeLine_eq]
      omega
    · show r.dd.depth ≤ 180
      omega
    · have e : strV (.t r) = r.dd.shown := by
        cases r with
        | st y => exact absurd (show false = true from o.2) (by decide)
        | lf l => cases l <;> rfl
        | nd n a b => rfl
      rw [e, ← this]
      omega
theorem fold_len {L : List SV} {r : RT} (h : foldL L = some r) : L.length = 6 := by
  obtain ⟨a, b, c, n, y, o, rfl, _⟩ := foldL_of h
  rfl
theorem step_none {S : List SV} (h : foldL (S.drop (S.length - 6)) = none) : stepL S ")" = none := by
  unfold stepL
  rw [if_neg (by decide), h]
  rfl
theorem step_some {S : List SV} {r : RT} (h : foldL (S.drop (S.length - 6)) = some r) : stepL S ")" = some (S.take (S.length - 6) ++ [.t r]) := by
  unfold stepL
  rw [if_neg (by decide), h]
  rfl
theorem fold_short {S : List SV} (h : S.length < 6) : stepL S ")" = none := by
  refine step_none ?_
  cases e : foldL (S.drop (S.length - 6)) with
  | none => rfl
  | some r =>
    have := fold_len e
    rw [List.length_drop] at this
    omega
/-- the signs are not those of a form -/
theorem fold_signs {a b c d e f : SV} (h : ¬ (isW "(" a = true ∧ isW "?" c = true ∧ isW ":" e = true)) : foldL [a, b, c, d, e, f] = none := by
  show (if (isW "(" a && isW "?" c && isW ":" e) = true then _ else none) = none
  rw [if_neg]
  rw [Bool.and_eq_true, Bool.and_eq_true]
  exact fun z => h ⟨z.1.1, z.1.2, z.2⟩
theorem fold_at {a b c d e f : SV} (h : isW "(" a = true ∧ isW "?" c = true ∧ isW ":" e = true) : foldL [a, b, c, d, e, f] = (match numOf b, asRT d, asRT f with
      | some n, some y, some o => some (.nd n y o)
      | _, _, _ => none) := by
  have hc : (isW "(" a && isW "?" c && isW ":" e) = true := by
    rw [Bool.and_eq_true, Bool.and_eq_true]
    exact ⟨⟨h.1, h.2.1⟩, h.2.2⟩
  exact if_pos hc
theorem clW_take (ws : List Str) (i : Nat) : clW (ws.take i) ≤ clW ws := List.Sublist.countP_le (List.take_sublist _ _)
theorem StOk.wt1 {S : List SV} {k c : Nat} (h : StOk S k c) {s : SV} (hs : s ∈ S) : wtV s ≤ k := by
  refine Nat.le_trans ?_ h.wt
  have : ∀ l : List SV, s ∈ l → wtV s ≤ (l.map wtV).sum := fun l => by
    induction l with
    | nil => intro h; cases h
    | cons a r ih =>
      intro h
      show _ ≤ wtV a + (r.map wtV).sum
      rcases List.mem_cons.mp h with rfl | h
      · omega
      · have := ih h; omega
  exact this S hs
theorem shown_a7 : ∀ {r : RT}, BdR r → A7 r.dd.shown
  | .lf (.i n), h, c, hc => by
    have := (big_num h).2.2 c hc
    omega
  | .lf (.b b), _, c, hc => by
    revert c hc
    show A7 (PyData.bool b).shown
    unfold A7
    cases b <;> decide +kernel
  | .st s, h, c, hc => by
    revert c hc
    show A7 (PyData.str s).shown
    unfold A7
    rcases h with rfl | rfl | rfl <;> decide +kernel
  | .nd n y o, h, c, hc => by
    have a := shown_a7 h.2.1
    have b := shown_a7 h.2.2
    have d : ∀ c ∈ sgn (Str.ofString (toString n)), c < 128 := fun c hc => by
      have := (big_num h.1).2.2 c hc
      omega
    have hc : c ∈ sgn (RT.nd n y o).dd.shown := hc
    rw [shown_ndR] at hc
    simp only [List.mem_cons, List.mem_append, List.not_mem_nil, or_false] at hc
    rcases hc with hc | hc | hc | hc | hc | hc | hc | hc | hc
    · omega
    · exact d c hc
    · omega
    · omega
    · exact a c hc
    · omega
    · omega
    · exact b c hc
    · omega
theorem strV_lay {s : SV} (o : okV s) : PyData.canLay0 (.str (strV s)) = true := by
  refine canLay_a7 ?_
  cases s with
  | w y => unfold A7; rcases o with rfl | rfl | rfl <;> decide +kernel
  | n => unfold A7; decide +kernel
  | t r =>
    cases r with
    | st y => exact absurd (show false = true from o.2) (by decide)
    | lf l => cases l with
      | i n => exact shown_a7 o.1
      | b n => exact shown_a7 o.1
    | nd n a b => exact shown_a7 o.1
theorem shaped3 {a b c : Str} (ha : PyData.canLay0 (.str a) = true) (hb : PyData.canLay0 (.str b) = true) (hc : PyData.canLay0 (.str c) = true) : SeqAt.shaped (.list [.str a, .str b, .str c]) = true := by
  unfold SeqAt.shaped
  have e : PyData.canLay0 (.list [.str a, .str b, .str c]) = (PyData.canLay0 (.str a) && (PyData.canLay0 (.str b) && (PyData.canLay0 (.str c) && true))) := rfl
  rw [e, ha, hb, hc]
  rfl
theorem shapedS : SeqAt.shaped (.list [.str "(", .str "?", .str ":"]) = true := shaped3 (by decide +kernel) (by decide +kernel) (by decide +kernel)
theorem eqv3 (a b c : Str) : (!PyData.eqv (.list [.str a, .str b, .str c]) (.list [.str "(", .str "?", .str ":"])) = !(decide (a = "(") && (decide (b = "?") && decide (c = ":"))) := by
  have beq : ∀ x y : Str, (x == y) = decide (x = y) := fun x y => by rw [Bool.eq_iff_iff, beq_iff_eq, decide_eq_true_eq]
  show (!((a == ("(" : Str)) && ((b == ("?" : Str)) && ((c == (":" : Str)) && true)))) = _
  rw [beq, beq, beq, Bool.and_true]
def isN : SV → Bool
  | .n => true
  | _ => false
theorem asRT_none {s : SV} : asRT s = none ↔ isN s = true := by
  cases s <;> simp [asRT, isN]
theorem eqv_none : ∀ s : SV, PyData.eqv (ddV s) .none = isN s
  | .w _ => rfl
  | .n => rfl
  | .t (.lf (.i _)) => rfl
  | .t (.lf (.b _)) => rfl
  | .t (.st _) => rfl
  | .t (.nd _ _ _) => rfl
end Law
set_option Elab.async false
set_option linter.all false
set_option maxRecDepth 100000
set_option maxHeartbeats 1000000
namespace Cor
open PySem PySem.Spec PyProof.Rows L2
/-- numbers rise from m on -/
def Tr.up : Int → Tr → Prop
  | _, .lf _ => True
  | m, .nd n y o => m < n ∧ y.up n ∧ o.up n
def Tr.sz : Tr → Nat
  | .lf _ => 1
  | .nd _ y o => y.sz + o.sz + 1
def casesOf : List (Int × Bool) → Tr → List (List (Int × Bool) × Lf)
  | ws, .lf l => [(ws, l)]
  | ws, .nd n y o => casesOf (ws ++ [(n, true)]) y ++ casesOf (ws ++ [(n, false)]) o
theorem casesOf_len : ∀ (ws : List (Int × Bool)) (t : Tr), (casesOf ws t).length ≤ t.sz
  | _, .lf _ => Nat.le_refl _
  | ws, .nd n y o => by
    have h1 := casesOf_len (ws ++ [(n, true)]) y
    have h2 := casesOf_len (ws ++ [(n, false)]) o
    unfold casesOf Tr.sz
    rw [List.length_append]
    omega
abbrev It := List (Int × Bool) × Tr
structure ItOk (it : It) : Prop where
  nd : (it.1.map (·.1)).Nodup
  up : ∃ m, (∀ k ∈ it.1.map (·.1), k ≤ m) ∧ it.2.up m
  ln : it.1.length + it.2.dep ≤ 60
theorem ItOk.sub {ws : List (Int × Bool)} {n : Int} {y o : Tr} (h : ItOk (ws, .nd n y o)) (b : Bool) : ItOk (ws ++ [(n, b)], if b = true then y else o) ∧ n ∉ ws.map (·.1) := by
  obtain ⟨h1, ⟨m, h2, h3, h4, h5⟩, h6⟩ := h
  have fr : n ∉ ws.map (·.1) := fun z => by
    have := h2 n z
    omega
  have hd : (Tr.nd n y o).dep = max y.dep o.dep + 1 := rfl
  rw [hd] at h6
  have h6 : ws.length + (max y.dep o.dep + 1) ≤ 60 := h6
  refine ⟨⟨?_, ⟨n, fun k hk => ?_, ?_⟩, ?_⟩, fr⟩
  · show ((ws ++ [(n, b)]).map (·.1)).Nodup
    rw [List.map_append]
    exact List.nodup_append.mpr ⟨h1, by simp, fun x hx y hy e => by
      rw [List.mem_singleton.mp (show y ∈ [n] from hy)] at e
      rw [e] at hx
      exact fr hx⟩
  · have hk : k ∈ (ws ++ [(n, b)]).map (·.1) := hk
    rw [List.map_append] at hk
    rcases List.mem_append.mp hk with z | z
    · have := h2 k z
      omega
    · rw [List.mem_singleton.mp (show k ∈ [n] from z)]
      exact Int.le_refl _
  · cases b
    · exact h5
    · exact h4
  · show (ws ++ [(n, b)]).length + (if b = true then y else o).dep ≤ 60
    rw [List.length_append, List.length_singleton]
    cases b
    · show ws.length + 1 + o.dep ≤ 60
      omega
    · show ws.length + 1 + y.dep ≤ 60
      omega
def itsz (its : List It) : Nat := (its.map fun it => it.2.sz).sum
theorem Tr.sz_pos : ∀ t : Tr, 0 < t.sz
  | .lf _ => Nat.one_pos
  | .nd _ _ _ => Nat.succ_pos _
theorem itsz_len : ∀ its : List It, its.length ≤ itsz its
  | [] => Nat.zero_le _
  | it :: its => by
    have := itsz_len its
    have h := it.2.sz_pos
    show its.length + 1 ≤ it.2.sz + itsz its
    omega
theorem itsz_append (a b : List It) : itsz (a ++ b) = itsz a + itsz b := by
  unfold itsz
  rw [List.map_append, List.sum_append]
/-- what is still to be handed out -/
def pend (its : List It) : List (List (Int × Bool) × Lf) := its.reverse.flatMap fun it => casesOf it.1 it.2
theorem pend_snoc (its : List It) (it : It) : pend (its ++ [it]) = casesOf it.1 it.2 ++ pend its := by
  unfold pend
  rw [List.reverse_append]
  rfl
/-- the stack's items stand -/
def StkI (H : Hp) : List V → List It → Prop := Paired fun v it => ∃ p d x, v = .ref p ∧ H p = some (.tup [.ref d, x]) ∧ Wl H d it.1 ∧ Tv H x it.2
def YdI (H : Hp) : List V → List (List (Int × Bool) × Lf) → Prop := Paired fun v c => ∃ p d, v = .ref p ∧ H p = some (.tup [.ref d, Lf.v c.2]) ∧ Wl H d c.1
theorem Wl.kp {H H' : Hp} {d : Addr} {ws : List (Int × Bool)} (k : Kp H H') (h : Wl H d ws) : Wl H' d ws := ⟨k _ _ (fun _ z => by cases z) h.1, h.2⟩
theorem StkI.kp {H H' : Hp} {vs : List V} {its : List It} (k : Kp H H') (h : StkI H vs its) : StkI H' vs its := Paired.mapP h fun _ _ ⟨p, d, x, e, h1, h2, h3⟩ => ⟨p, d, x, e, k _ _ (fun _ z => by cases z) h1, h2.kp k, h3.kp k⟩
theorem YdI.kp {H H' : Hp} {vs : List V} {cs : List (List (Int × Bool) × Lf)} (k : Kp H H') (h : YdI H vs cs) : YdI H' vs cs := Paired.mapP h fun _ _ ⟨p, d, e, h1, h2⟩ => ⟨p, d, e, k _ _ (fun _ z => by cases z) h1, h2.kp k⟩
theorem paired_last {α β : Type} {F : α → β → Prop} {bs : List β} {b : β} : ∀ {as : List α}, Paired F as (bs ++ [b]) → ∃ as' a, as = as' ++ [a] ∧ Paired F as' bs ∧ F a b := by
  induction bs with
  | nil =>
    intro as h
    cases h with
    | cons h t => cases t; exact ⟨[], _, rfl, .nil, h⟩
  | cons c bs ih =>
    intro as h
    cases h with
    | cons h t =>
      obtain ⟨as', a, e, h1, h2⟩ := ih t
      rw [e]
      exact ⟨_ :: as', a, rfl, .cons h h1, h2⟩
end Cor
set_option Elab.async false
set_option linter.all false
set_option maxRecDepth 100000
set_option maxHeartbeats 1000000
namespace Law
open PySem PySem.Spec PyProof.Rows L2 Cor
def nqT : Tr → Prop
  | .lf _ => True
  | .nd _ y o => y ≠ o ∧ nqT y ∧ nqT o
def allT (g : Lf → Prop) : Tr → Prop
  | .lf l => g l
  | .nd _ y o => allT g y ∧ allT g o
theorem snd_hom {k : Bool} : ∀ {t : Tr} {m : Int}, sndE t m k = true → t.hom k
  | .lf (.i n), m, h => by
    have h : (false == k) = true := h
    show k = false
    cases k
    · rfl
    · cases h
  | .lf (.b n), m, h => by
    have h : (true == k) = true := h
    show k = true
    cases k
    · cases h
    · rfl
  | .nd n y o, m, h => by
    unfold sndE at h
    split at h
    · cases h
    · rw [Bool.and_eq_true] at h
      exact ⟨snd_hom h.1, snd_hom h.2⟩
theorem snd_up {k : Bool} : ∀ {t : Tr} {m : Int}, sndE t m k = true → t.up m
  | .lf _, m, h => True.intro
  | .nd n y o, m, h => by
    unfold sndE at h
    split at h
    · cases h
    · rename_i hn
      rw [Bool.and_eq_true] at h
      exact ⟨Int.not_le.mp fun z => hn (.inl z), snd_up h.1, snd_up h.2⟩
theorem snd_nq {k : Bool} : ∀ {t : Tr} {m : Int}, sndE t m k = true → nqT t
  | .lf _, m, h => True.intro
  | .nd n y o, m, h => by
    have hh := snd_hom h
    unfold sndE at h
    split at h
    · cases h
    · rename_i hn
      rw [Bool.and_eq_true] at h
      refine ⟨fun z => hn (.inr ?_), snd_nq h.1, snd_nq h.2⟩
      rw [eqv_tr hh.1 hh.2]
      exact decide_eq_true z
theorem rd_all {k : Bool} : ∀ {t : Tr}, Rd t → t.hom k → allT (Lg k 67) t
  | .lf (.i n), h, hk => ⟨hk, Nat.lt_trans (show n.natAbs < 10 ^ 20 from h) (by decide)⟩
  | .lf (.b n), h, hk => hk
  | .nd n y o, h, hk => ⟨rd_all h.2.2.1 hk.1, rd_all h.2.2.2 hk.2⟩
theorem up_lt : ∀ {t : Tr} {m : Int}, t.up m → ∀ n ∈ t.nums, m < n
  | .lf _, m, h, n, hn => by cases hn
  | .nd j y o, m, h, n, hn => by
    obtain ⟨h1, h2, h3⟩ := h
    rcases List.mem_cons.mp hn with e | e
    · omega
    · rcases List.mem_append.mp e with e | e
      · have := up_lt h2 n e; omega
      · have := up_lt h3 n e; omega
theorem cn_all {g : Lf → Prop} : ∀ {S : List Int} {t : Tr} {m : Int}, Asc S → (∀ n ∈ t.nums, n ∈ S) → t.up m → nqT t → allT g t → Cn g S t
  | S, .lf l, m, _, _, _, _, h => .lf h
  | [], .nd n y o, m, _, h, _, _, _ => by cases h n List.mem_cons_self
  | s :: S, .nd n y o, m, hS, h, hu, hq, hg => by
    obtain ⟨h1, h2, h3⟩ := hu
    obtain ⟨q1, q2, q3⟩ := hq
    obtain ⟨a1, a2⟩ := List.pairwise_cons.mp hS
    have hn := h n List.mem_cons_self
    by_cases e : n = s
    · subst e
      refine .inl ⟨rfl, q1, cn_all a2 (fun x hx => ?_) h2 q2 hg.1, cn_all a2 (fun x hx => ?_) h3 q3 hg.2⟩
      · have := up_lt h2 x hx
        rcases List.mem_cons.mp (h x (List.mem_cons_of_mem _ (List.mem_append_left _ hx))) with z | z
        · omega
        · exact z
      · have := up_lt h3 x hx
        rcases List.mem_cons.mp (h x (List.mem_cons_of_mem _ (List.mem_append_right _ hx))) with z | z
        · omega
        · exact z
    · have hn : n ∈ S := (List.mem_cons.mp hn).resolve_left e
      have hs := a1 n hn
      refine .inr (cn_all (m := m) a2 (fun x hx => ?_) ⟨h1, h2, h3⟩ ⟨q1, q2, q3⟩ hg)
      rcases List.mem_cons.mp (h x hx) with z | z
      · rcases List.mem_cons.mp hx with y1 | y1
        · omega
        · rcases List.mem_append.mp y1 with y1 | y1
          · have := up_lt h2 x y1; omega
          · have := up_lt h3 x y1; omega
      · exact z
theorem ins_ex (n : Int) : ∀ S : List Int, Asc S → ∃ S', Asc S' ∧ (∀ x, x ∈ S' ↔ x = n ∨ x ∈ S) ∧ S'.length ≤ S.length + 1
  | [], _ => ⟨[n], List.pairwise_singleton _ _, fun x => by simp, Nat.le_refl _⟩
  | s :: S, h => by
    obtain ⟨h1, h2⟩ := List.pairwise_cons.mp h
    by_cases e : n < s
    · refine ⟨n :: s :: S, List.pairwise_cons.mpr ⟨fun x hx => ?_, h⟩, fun x => by simp, Nat.le_refl _⟩
      rcases List.mem_cons.mp hx with z | z
      · omega
      · have := h1 x z; omega
    · by_cases e2 : n = s
      · exact ⟨s :: S, h, fun x => by simp [e2], Nat.le_succ _⟩
      · obtain ⟨S', g1, g2, g3⟩ := ins_ex n S h2
        refine ⟨s :: S', List.pairwise_cons.mpr ⟨fun x hx => ?_, g1⟩, fun x => ?_, Nat.succ_le_succ g3⟩
        · rcases (g2 x).mp hx with z | z
          · omega
          · exact h1 x z
        · rw [List.mem_cons, List.mem_cons, g2]
          constructor
          · rintro (z | z | z)
            · exact .inr (.inl z)
            · exact .inl z
            · exact .inr (.inr z)
          · rintro (z | z | z)
            · exact .inr (.inl z)
            · exact .inl z
            · exact .inr (.inr z)
theorem sort_ex : ∀ l : List Int, ∃ S, Asc S ∧ (∀ x, x ∈ S ↔ x ∈ l) ∧ S.length ≤ l.length
  | [] => ⟨[], .nil, fun x => Iff.rfl, Nat.le_refl _⟩
  | n :: l => by
    obtain ⟨S, h1, h2, h3⟩ := sort_ex l
    obtain ⟨S', g1, g2, g3⟩ := ins_ex n S h1
    exact ⟨S', g1, fun x => by rw [g2, h2, List.mem_cons], by show _ ≤ l.length + 1; omega⟩
/-- a form that is read, not too large -/
structure Gd (t : Tr) : Prop where
  rd : Rd t
  sn : sndE t 0 (leftB t) = true
  dp : t.dep ≤ 12
  nn : t.nums.length ≤ 200
theorem Gd.hom {t : Tr} (h : Gd t) : t.hom (leftB t) := snd_hom h.sn
theorem Gd.up {t : Tr} (h : Gd t) : t.up 0 := snd_up h.sn
theorem Gd.nq {t : Tr} (h : Gd t) : nqT t := snd_nq h.sn
theorem Gd.cn {t : Tr} (h : Gd t) : ∃ S, Asc S ∧ (∀ x, x ∈ S ↔ x ∈ t.nums) ∧ S.length ≤ 200 ∧ Cn (Lg (leftB t) 67) S t ∧ ∀ n ∈ S, n.natAbs < 2 ^ 1900 := by
  obtain ⟨S, h1, h2, h3⟩ := sort_ex t.nums
  have small : ∀ {t : Tr}, Rd t → ∀ n ∈ t.nums, n.natAbs < 10 ^ 20 := fun {t} => by
    induction t with
    | lf l => intro _ n hn; cases hn
    | nd j y o ih1 ih2 =>
      intro hr n hn
      rcases List.mem_cons.mp hn with e | e
      · rw [e]; exact hr.2.1
      · rcases List.mem_append.mp e with e | e
        · exact ih1 hr.2.2.1 n e
        · exact ih2 hr.2.2.2 n e
  exact ⟨S, h1, h2, Nat.le_trans h3 h.nn, cn_all h1 (fun n hn => (h2 n).mpr hn) h.up h.nq (rd_all h.rd h.hom), fun n hn => Nat.lt_trans (small h.rd n ((h2 n).mp hn)) (by decide +kernel)⟩
theorem sz_dep : ∀ t : Tr, t.sz + 1 ≤ 2 ^ (t.dep + 1)
  | .lf _ => by show 2 ≤ 2 ^ 1; decide
  | .nd n y o => by
    have h1 := sz_dep y
    have h2 := sz_dep o
    have p1 : 2 ^ (y.dep + 1) ≤ 2 ^ (max y.dep o.dep + 1) := Nat.pow_le_pow_right (by decide) (by omega)
    have p2 : 2 ^ (o.dep + 1) ≤ 2 ^ (max y.dep o.dep + 1) := Nat.pow_le_pow_right (by decide) (by omega)
    show y.sz + o.sz + 1 + 1 ≤ 2 ^ (max y.dep o.dep + 1 + 1)
    rw [Nat.pow_succ]
    omega
theorem Gd.sz {t : Tr} (h : Gd t) : t.sz ≤ 10000 := by
  have h1 := sz_dep t
  have h2 : 2 ^ (t.dep + 1) ≤ 2 ^ 13 := Nat.pow_le_pow_right (by decide) (by have := h.dp; omega)
  have : 2 ^ 13 = 8192 := by decide
  omega
/-- as many closing words as nodes -/
theorem toks_close : ∀ {t : Tr}, Rd t → clW (toksL t) = t.nums.length
  | .lf l, h => by
    have := (item_leaf h).2
    show List.countP _ [lfT l] = 0
    rw [List.countP_cons, if_neg (fun z => this (of_decide_eq_true z))]
    rfl
  | .nd n y o, h => by
    obtain ⟨h1, h2, hy, ho⟩ := h
    have e := toks_close hy
    have e2 := toks_close ho
    have en := (item_leaf (l := .i n) h2).2
    show clW (("(" : Str) :: num8 n :: ("?" : Str) :: (toksL y ++ (":" : Str) :: (toksL o ++ [(")" : Str)]))) = (n :: (y.nums ++ o.nums)).length
    unfold clW at e e2 ⊢
    have en : ¬ decide (num8 n = (")" : Str)) = true := fun z => en (of_decide_eq_true z)
    rw [List.countP_cons, List.countP_cons, List.countP_cons, List.countP_append, List.countP_cons, List.countP_append, List.countP_cons, List.countP_nil, e, e2, if_neg en, if_neg (show ¬ decide (("(" : Str) = (")" : Str)) = true by decide +kernel), if_neg (show ¬ decide (("?" : Str) = (")" : Str)) = true by decide +kernel), if_neg (show ¬ decide ((":" : Str) = (")" : Str)) = true by decide +kernel), if_pos (show decide ((")" : Str) = (")" : Str)) = true by decide +kernel), List.length_cons, List.length_append]
    omega
theorem gd_read {x : Str} {t : Tr} (h : readT x = some t) (hc : clW (wordsL x) ≤ 200) : Gd t ∧ x = txt t := by
  obtain ⟨_, e, rd, dp, ak⟩ := read_ok h
  refine ⟨⟨rd, snd_of ak (rd_top rd), dp, ?_⟩, e⟩
  rw [← toks_close rd, ← wordsL_txt rd, ← e]
  exact hc
end Law
set_option Elab.async false
set_option linter.all false
set_option maxRecDepth 100000
set_option maxHeartbeats 4000000
namespace Cor
open PySem PySem.Spec PyProof.Rows L2
def rSortedSetB (w : World) : List V → Hp → VK → Prop := fun vs H Q => ∃ (a : Addr) (S : Int → Bool) (n : Nat), vs = [V.ref a] ∧ H a = some (SetO w a S n) ∧ n ≤ sizeLine ∧
  ∀ (ns : List Int) (p : Addr), ns.Pairwise (· < ·) → (∀ k : Int, k ∈ ns ↔ S k = true) → ns.length = n → H p = none → Q (.ref p) (upd H p (.lst (ns.map V.int)))
theorem cr_sortedSetB {X : Cx} (hc : X.calm = true) : CallR X (.builtin "sorted") (rSortedSetB X.w) := by
  intro pins s σ H vs us Q I r h
  obtain ⟨a, S, n, rfl, ha, hln, q⟩ := h
  have R := setO_get I ha
  rw [Vals.ref1 r]
  obtain ⟨o, es, ep, t, ho, hex, hd, g, nd, hm, hb, hf, hn, hr, hl⟩ := R
  have hh : X.A.handled = none := I.ok.hd hc
  refine Calls.call_function_entry kind_sorted plain_sorted entry_sorted (args_sorted1 _) ?_
  unfold Builtin.«sorted»
  refine wpAny_bind (m := checkCount "sorted" 1 1 _) (wpAny_pure ?_)
  refine wpAny_bind (collect_set (A := X.A.in1) hh ⟨o, ho, hex.1, hd⟩ hf hb hr hl fun s1 vs k1 hz g1 o1 pm => ?_)
  have hvl : vs.length = n := by rw [pm.length_eq, List.length_map, Array.length_toList]; exact hn
  have hI : IntsAre vs (vs.map Builtin.Re.reRawOf) := ints_of vs fun v hv => by
    obtain ⟨e, he, q⟩ := List.mem_map.mp (pm.mem_iff.mp hv)
    obtain ⟨k, tk, h1, _⟩ := g e he
    exact ⟨k, tk, by rw [← q]; exact h1⟩
  have pk : (vs.map Builtin.Re.reRawOf).Perm (es.toList.map keyOf) := by
    have q := pm.map Builtin.Re.reRawOf
    rw [List.map_map] at q
    exact q
  refine wpAny_bind (wpAny_newList ?_ (by rw [hvl]; exact hln))
  have hoL : (s1.heap.push (seqObj "list" vs.toArray 0)).get? s1.heap.objs.size = some (seqObj "list" vs.toArray 0) := Heap.get?_push_size _ rfl
  refine wpAny_bind (wpAny_holding (wpAny_call_entry (s := { s1 with heap := s1.heap.push (seqObj "list" vs.toArray 0) }) slot_list_sort ⟨_, hoL, rfl⟩ entry_list_sort (list_sort_treeAny hoL hI (by rw [hvl]; exact hln) fun out ns' a1 a2 a3 => ⟨.none, rfl, ?_⟩) (args_list_sort _)))
  obtain ⟨c, hc'⟩ := sortedHeap_at (vs := vs) (out := out) hoL
  have pn : ns'.Perm (es.toList.map keyOf) := a2.trans pk
  have hl2 : ns'.length = n := by rw [pn.length_eq, List.length_map, Array.length_toList]; exact hn
  have hlen : (ns'.map V.int).length ≤ sizeLine := by rw [List.length_map, hl2]; exact hln
  have fr : H s1.heap.objs.size = none := I.hok.fresh hz
  have k : ∀ b u, s.heap.get? b = some u → (sortedHeap (s1.heap.push (seqObj "list" vs.toArray 0)) s1.heap.objs.size vs out).get? b = some u := fun b u e => by
    have q := k1 b u e
    have hlt := Heap.lt_size q
    rw [sortedHeap_old (Nat.ne_of_lt hlt) (by rw [size_push']; exact Nat.lt_succ_of_lt hlt)]
    exact Heap.get?_push_of_some _ q
  have J : Inv X pins σ (upd H s1.heap.objs.size (.lst (ns'.map V.int))) { s with heap := sortedHeap (s1.heap.push (seqObj "list" vs.toArray 0)) s1.heap.objs.size vs out, gens := s1.gens, drawn := s1.drawn, toks := s1.toks } :=
    I.call (ch := []) (Un.laid k hz fr) (I.hok.laid k hz ⟨hlen, out.toList, c, vals_of_ints a1, by rw [Array.toArray_toList]; exact hc'⟩) (by rw [g1]; exact I.bare) (fun _ z => nomatch z)
  refine wpAny_pure ⟨_, rfl, ?_⟩
  obtain ⟨h0, g0, d0, t0, o0⟩ := s1
  obtain rfl : o0 = s.os := o1
  exact ⟨.ref _, _, J, rfl, q ns' _ (lt_of_le_nodup ns' a3 (pn.nodup_iff.mpr nd)) (fun k => by rw [pn.mem_iff, ← hm k]) hl2 fr⟩
end Cor
set_option Elab.async false
set_option linter.all false
set_option maxRecDepth 100000
set_option maxHeartbeats 1000000
namespace Law
open PySem PySem.Spec PyProof.Rows L2 Cor
def spNumbers9 (m : Nat) : Sp := fun vs H Q _ => ∃ (v : V) (t : Tr) (k : Bool) (B : Nat) (S : List Int), vs = [v] ∧ Tv H v t ∧ t.dep < m ∧ Asc S ∧ S.length ≤ 200 ∧ Cn (Lg k B) S t ∧
  ∀ p H' ns, Same H H' → H' p = some (.lst (ns.map V.int)) → Asc ns → (∀ n, n ∈ ns ↔ n ∈ t.nums) → ns.length ≤ S.length → Q (.ref p) H'
def spReduced9 (m : Nat) : Sp := fun vs H Q _ => ∃ (v : V) (t : Tr) (d : Addr) (wf : Int → Option Bool) (k : Bool) (B : Nat) (S : List Int), vs = [v, .ref d] ∧ Tv H v t ∧ Wd H d wf ∧ t.dep < m ∧ Asc S ∧ S.length ≤ 200 ∧ Cn (Lg k B) S t ∧
  ∀ v' H' t', Same H H' → Tv H' v' t' → Cn (Lg k B) (left wf S) t' → (∀ r : Rho, t'.ev r = t.ev (over wf r)) → t'.dep ≤ t.dep → Q v' H'
def spWords9 (C : Addr) : Sp := fun vs H Q _ => ∃ (a : Addr) (t : Tr) (k : Bool) (B : Nat) (S : List Int), vs = [.ref a] ∧ Wo C H a t ∧ Asc S ∧ S.length ≤ 200 ∧ t.dep ≤ 20 ∧ Cn (Lg k B) S t ∧
  ∀ p H' ns, Same H H' → H' p = some (.tup (ns.map V.int)) → Asc ns → (∀ n, n ∈ ns ↔ n ∈ t.nums) → Q (.ref p) H'
def spCallW9 (C : Addr) : Sp := fun vs H Q _ => ∃ (a d : Addr) (t : Tr) (wf : Int → Option Bool) (k : Bool) (B : Nat) (S : List Int), vs = [.ref a, .ref d] ∧ Wo C H a t ∧ Wd H d wf ∧ Asc S ∧ S.length ≤ 200 ∧ t.dep ≤ 20 ∧ Cn (Lg k B) S t ∧ (∀ n ∈ S, (wf n).isSome = true) ∧
  ∀ l H', Same H H' → Lg k B l → (∀ r : Rho, l = t.ev (over wf r)) → Q (Lf.v l) H'
def spFound9 (m : Nat) : Sp := fun vs H Q _ => ∃ (v : V) (t : Tr) (k : Bool) (B : Nat) (S : List Int), vs = [v] ∧ Tv H v t ∧ t.dep < m ∧ Asc S ∧ S.length ≤ 200 ∧ Cn (Lg k B) S t ∧
  ∀ p H' ns, Same H H' → H' p = some (.lst (ns.map V.int)) → Asc ns → (∀ n, n ∈ ns ↔ n ∈ t.nums) → ns.length ≤ S.length → Q (.ref p) H'
def spIs9 (C : Addr) : Sp := fun vs H Q _ => ∃ (x v : V) (t : Tr) (k k' : Bool) (B B' : Nat) (S : List Int) (f : Rho → Lf), vs = [x, v] ∧ Val C S k B f H x ∧ Tv H v t ∧ Cn (Lg k' B') S t ∧ (∀ r, t.ev r = f r) ∧ Asc S ∧ S.length ≤ 200 ∧ t.dep ≤ 12 ∧ (∀ n ∈ S, n.natAbs < 2 ^ 1900) ∧ 0 < B' ∧ B' ≤ 1900 ∧
  ∀ H', Same H H' → Q (.bl true) H'
structure WIs9 (P : Program) (w : World) (K : PySem.W.Frag) (mg : Str → Option Value) (base : Heap) (C : Addr) : Prop extends WCl K mg C where
  words : PrW P w K mg base C "words" 24 (spWords9 C)
  plain : PrW P w K mg base C "plain" 24 (spPlain C)
  isT : PrW P w K mg base C "is_truth" 24 (spIsT C)
  str : ∃ g, PySem.W.findIn K (.ref C) "__str__" = some (some (.ref g)) ∧ MdR P w K mg base 24 g (spStrW C)
  rpr : ∃ g, PySem.W.findIn K (.ref C) "__repr__" = some (some (.ref g)) ∧ MdR P w K mg base 24 g (spReprW C)
theorem told_ok9 {ns : List Int} {t : Tr} {k : Bool} (hn : ∀ n ∈ ns, n.natAbs.log2 < 1920) (hl : ns.length ≤ 200) (sm : Sml t) : (toldD ns t k).showable = true ∧ (toldD ns t k).hasDict = false ∧ (toldD ns t k).shown.length ≤ sizeLine ∧ (toldD ns t k).depth ≤ 60 := by
  obtain ⟨p1, p2, p3, p4⟩ := plain_show sm
  rw [told_eq]
  refine ⟨?_, ?_, ?_, ?_⟩
  · show (PyData.showableAll (ns.map .int) && ((plainD t).showable && (PyData.showable (.bool k) && true))) = true
    rw [show_ints ns hn, p1]; rfl
  · show (PyData.hasDictAll (ns.map .int) || ((plainD t).hasDict || (PyData.hasDict (.bool k) || false))) = false
    rw [nodict_ints, p2]; rfl
  · rw [PyData.shown_list, PyData.shownAll_cons, PyData.shownAll_cons, PyData.shownAll_cons, PyData.shownAll_nil, PyData.shown_tuple, PyData.shownAll_ints, Str.length_append, Str.length_append]
    have j := join_len [(("(" : Str) ++ Str.join ", " (ns.map fun n => ((toString n : String) : Str)) ++ (if (ns.map PyData.int).length == 1 then ",)" else ")" : String)), (plainD t).shown, (PyData.bool k).shown]
    have j2 := join_len (ns.map fun n => ((toString n : String) : Str))
    have j3 := nums_len ns hn
    have b : (PyData.bool k).shown.length ≤ 5 := by cases k <;> decide +kernel
    have e1 : (Str.ofString (if (ns.map PyData.int).length == 1 then ",)" else ")" : String)).length ≤ 2 := by split <;> decide +kernel
    have e2 : Str.length (Str.ofString "(") = 1 := by decide +kernel
    have e3 : Str.length (Str.ofString "[") = 1 := by decide +kernel
    have e4 : Str.length (Str.ofString "]") = 1 := by decide +kernel
    simp only [List.map_cons, List.map_nil, List.sum_cons, List.sum_nil, Str.length_append] at j
    have e5 : sizeLine = 16777216 := rfl
    have l12 : 1923 * ns.length ≤ 1923 * 200 := Nat.mul_le_mul_left _ hl
    rw [e3, e4, e5]
    omega
  · show max (PyData.depthAll (ns.map .int) + 1) (max (plainD t).depth (max 0 0)) + 1 ≤ 60
    have := ints_depth ns
    rw [p3]
    omega
theorem mkNd_dep (n : Int) (y o : Tr) : (mkNd n y o).dep ≤ max y.dep o.dep + 1 := by
  unfold mkNd
  split
  · omega
  · exact Nat.le_refl _
section
variable {P : Program} {w : World} {K : PySem.W.Frag} {mg : Str → Option Value} {base : Heap} {C : Addr}
theorem ok_numbers9 {f : Addr} {fd : FuncData} (F : Fun K "numbers_in" "numbers_in" sNumbers f fd) (T : GloW mg) (dl : Df P w K mg base "is_leaf" 1 ["tree"] spLeaf) (hm : mg "numbers_in" = some (.ref f)) :
    ∀ m, m ≤ 50 → FnOk P w K mg base CX0 (2 + m) f fd ["tree"] (spNumbers9 m) := by
  intro m
  induction m with
  | zero =>
    intro _
    refine F.ok scNumbers (k := 1) (fun vs H Q E h => ?_) (fun cdv A outer s H vs Q E hr h => ?_)
    · obtain ⟨v, t, k, B, S, rfl, _⟩ := h
      rfl
    · obtain ⟨v, t, k, B, S, rfl, _, hl, _⟩ := h
      omega
  | succ m IH =>
    intro hm50
    have ih : Df P w K mg base "numbers_in" (2 + m) ["tree"] (spNumbers9 m) := ⟨f, fd, IH (by omega), hm, F.kp, F.binds fun _ _ _ _ _ _ us hl => match us, hl with | [_], _ => rfl⟩
    refine F.ok scNumbers (k := 2 + m) (fun vs H Q E h => ?_) (fun cdv A outer s H vs Q E hr h => ?_)
    · obtain ⟨v, t, k, B, S, rfl, _⟩ := h
      rfl
    · obtain ⟨v, t, k, B, S, rfl, hv, hl, hS, h31, ct, q⟩ := h
      refine ⟨_, (pss_cons (ps_if (pt_val (pe_df (E := E0) dl (hr.mono (by omega)) (by rfl) (pa_cons (pv 0) pa_nil))) (pss_one (ps_ret (pe_lst pa_nil))) pss_nil)
      (pss_cons (ps_asg (pv 0) (pg_tup rfl (pgs_cons (pg_name (i := 1) scNumbers.nd rfl (Or.inl rfl)) (pgs_cons (pg_name (i := 2) scNumbers.nd rfl (Or.inl rfl)) (pgs_cons (pg_name (i := 3) scNumbers.nd rfl (Or.inl rfl)) pgs_nil)))))
      (pss_one (ps_ret (pe_lst (pa_cons (pv 1) (StX.pa_star (pe_callB (cr_sortedSetB rfl) (by rfl) T.sorted (by decide +kernel) (pa_cons (pe_callTy (cr_setI rfl) (by rfl) T.set (by decide +kernel) (pa_cons (pe_op op_cat (pe_df (E := E0) ih hr (by rfl) (pa_cons (pv 2) pa_nil)) (pe_df (E := E0) ih hr (by rfl) (pa_cons (pv 3) pa_nil))) pa_nil)) pa_nil)) pa_nil))))))), ?_⟩
      refine ⟨_, rfl, _, t, rfl, hv, _, rfl, ?_⟩
      cases t with
      | lf l =>
        refine ⟨(by show 0 ≤ sizeLine; decide), fun p np => ?_⟩
        exact q p _ [] (same_upd np) upd_same .nil (fun n => Iff.rfl) (Nat.zero_le _)
      | nd n ty to =>
        obtain ⟨a, y, o, rfl, h1, h2, h3⟩ := hv.nd_of
        have hl : max ty.dep to.dep + 1 < m + 1 := hl
        obtain ⟨hn, _, cy, co⟩ := Cn.below hS ct
        have dl := above_len hS hn
        refine ⟨_, rfl, a, _, rfl, SqT.of h1, rfl, _, _, rfl, _, _, rfl, _, _, rfl, rfl, ?_⟩
        refine ⟨_, rfl, _, rfl, y, ty, k, B, above n S, rfl, h2, by omega, above_asc hS, by omega, cy, fun p1 H1 n1 s1 e1 a1 m1 l1 => ?_⟩
        refine ⟨_, rfl, o, to, k, B, above n S, rfl, h3.same s1, by omega, above_asc hS, by omega, co, fun p2 H2 n2 s2 e2 a2 m2 l2 => ?_⟩
        have len : (n1 ++ n2).length ≤ 400 := by rw [List.length_append]; omega
        refine ⟨p1, p2, _, _, rfl, rfl, s2 _ _ e1, e2, ?_, fun p3 np3 => ?_⟩
        · rw [List.length_map, List.length_map, ← List.length_append]; exact Nat.le_trans len (by decide)
        have s3 := same_upd (o := .lst (n1.map V.int ++ n2.map V.int)) np3
        refine ⟨p3, n1 ++ n2, rfl, SqL.of (by rw [List.map_append]; exact upd_same), by omega, fun p4 c hc np4 => ?_⟩
        have s4 := same_upd (o := SetO w p4 (fun j => decide (j ∈ n1 ++ n2)) c) np4
        refine ⟨p4, _, c, rfl, upd_same, by rw [sizeLine_eq]; omega, fun ns p5 asc mem hlen np5 => ?_⟩
        have s5 := same_upd (o := .lst (ns.map V.int)) np5
        have up5 : (upd (upd (upd H2 p3 (.lst (n1.map V.int ++ n2.map V.int))) p4 (SetO w p4 (fun j => decide (j ∈ n1 ++ n2)) c)) p5 (.lst (ns.map V.int))) p5 = some (.lst (ns.map V.int)) := upd_same
        refine ⟨p5, _, rfl, .inr (SqL.of up5), ?_, fun p6 np6 => ?_⟩
        · show (ns.map V.int ++ []).length + 1 ≤ sizeLine
          rw [List.append_nil, List.length_map, hlen]; exact Nat.le_trans (Nat.succ_le_succ (Nat.le_trans hc len)) (by decide)
        have s6 := same_upd (o := .lst (V.int n :: (ns.map V.int ++ []))) np6
        have mem' : ∀ x, x ∈ ns ↔ x ∈ ty.nums ++ to.nums := fun x => by
          rw [mem x, decide_eq_true_iff, List.mem_append, List.mem_append, m1, m2]
        have hgt : ∀ x ∈ ns, n < x := fun x hx => by
          rcases List.mem_append.mp ((mem' x).mp hx) with z | z
          · exact cy.nums_above x z
          · exact co.nums_above x z
        have mem'' : ∀ x, x ∈ n :: ns ↔ x ∈ (Tr.nd n ty to).nums := fun x => by
          show _ ↔ x ∈ n :: (ty.nums ++ to.nums)
          rw [List.mem_cons, List.mem_cons, mem']
        have asc' : Asc (n :: ns) := List.pairwise_cons.mpr ⟨hgt, asc⟩
        refine q p6 _ (n :: ns) (fun b o z => s6 b o (s5 b o (s4 b o (s3 b o (s2 b o (s1 b o z)))))) (by rw [upd_same, List.append_nil]; rfl) asc' mem'' ?_
        exact (asc_sub hS asc' fun x hx => ct.mem x ((mem'' x).mp hx)).length_le
theorem ok_reduced9 {f : Addr} {fd : FuncData} (F : Fun K "reduced" "reduced" sReduced f fd) (T : GloW mg) (dl : Df P w K mg base "is_leaf" 1 ["tree"] spLeaf) (dn : Df P w K mg base "node" 1 ["number", "yes", "no"] spNode) (hm : mg "reduced" = some (.ref f)) :
    ∀ m, m ≤ 50 → FnOk P w K mg base CX0 (2 + m) f fd ["tree", "words"] (spReduced9 m) := by
  intro m
  induction m with
  | zero =>
    intro _
    refine F.ok scReduced (k := 1) (fun vs H Q E h => ?_) (fun cdv A outer s H vs Q E hr h => ?_)
    · obtain ⟨v, t, d, wf, k, B, S, rfl, _⟩ := h
      rfl
    · obtain ⟨v, t, d, wf, k, B, S, rfl, _, _, hl, _⟩ := h
      omega
  | succ m IH =>
    intro hm50
    have ih : Df P w K mg base "reduced" (2 + m) ["tree", "words"] (spReduced9 m) := ⟨f, fd, IH (by omega), hm, F.kp, F.binds fun _ _ _ _ _ _ us hl => match us, hl with | [_, _], _ => rfl⟩
    refine F.ok scReduced (k := 2 + m) (fun vs H Q E h => ?_) (fun cdv A outer s H vs Q E hr h => ?_)
    · obtain ⟨v, t, d, wf, k, B, S, rfl, _⟩ := h
      rfl
    · obtain ⟨v, t, d, wf, k, B, S, rfl, hv, hd, hl, hS, h50, ct, q⟩ := h
      have hu := hu_of hr
      refine ⟨_, (pss_cons (ps_if (pt_val (pe_df (E := E0) dl (hr.mono (by omega)) (by rfl) (pa_cons (pv 0) pa_nil))) (pss_one (ps_ret (pv 0))) pss_nil)
      (pss_cons (ps_asg (pv 0) (pg_tup rfl (pgs_cons (pg_name (i := 2) scReduced.nd rfl (Or.inl rfl)) (pgs_cons (pg_name (i := 3) scReduced.nd rfl (Or.inl rfl)) (pgs_cons (pg_name (i := 4) scReduced.nd rfl (Or.inl rfl)) pgs_nil)))))
      (pss_cons (ps_if (pt_cmp (pc_din hu (pv 2) (pv 1))) (pss_one (ps_ret (pe_df (E := E0) ih hr (by rfl) (pa_cons (pe_ifExp (pt_val (pe_dget hu (pv 1) (pv 2) (fun _ _ => rfl))) (pv 3) (pv 4)) (pa_cons (pv 1) pa_nil))))) pss_nil)
      (pss_one (ps_ret (pe_df (E := E0) dn (hr.mono (by omega)) (by rfl) (pa_cons (pv 2) (pa_cons (pe_df (E := E0) ih hr (by rfl) (pa_cons (pv 3) (pa_cons (pv 1) pa_nil))) (pa_cons (pe_df (E := E0) ih hr (by rfl) (pa_cons (pv 4) (pa_cons (pv 1) pa_nil))) pa_nil))))))))), ?_⟩
      refine ⟨_, rfl, _, t, rfl, hv, _, rfl, ?_⟩
      cases t with
      | lf l => exact ⟨_, rfl, q _ H _ (fun _ _ z => z) hv (.lf ct.lf_of) (fun _ => rfl) (Nat.le_refl _)⟩
      | nd n ty to =>
        obtain ⟨a, y, o, rfl, h1, h2, h3⟩ := hv.nd_of
        have hl : max ty.dep to.dep + 1 < m + 1 := hl
        obtain ⟨hn, _, cy, co⟩ := Cn.below hS ct
        have dl := above_len hS hn
        obtain ⟨kvs, hk, hw⟩ := hd
        refine ⟨_, rfl, a, _, rfl, SqT.of h1, rfl, _, _, rfl, _, _, rfl, _, _, rfl, rfl, ?_⟩
        refine ⟨_, rfl, _, rfl, d, _, rfl, DGet.k (k := Sum.inl n) hk, _, rfl, ?_⟩
        rw [hw n]
        cases hb : wf n with
        | some b =>
          have hg : DGet H d (.int n) (some (.bl b)) := by
            have z := DGet.k (k := Sum.inl n) hk
            rw [hw n, hb] at z
            exact z
          have sub : (left wf (above n S)).Sublist (left wf S) := (above_sub n S).filter _
          refine ⟨_, rfl, _, rfl, d, _, rfl, hg, _, rfl, ?_⟩
          have ev : ∀ r : Rho, (Tr.nd n ty to).ev (over wf r) = if b = true then ty.ev (over wf r) else to.ev (over wf r) := fun r => by
            show (if (over wf r) n = true then _ else _) = _
            rw [show (over wf r) n = b by unfold over; rw [hb]; rfl]
          cases b with
          | true => exact ⟨_, rfl, _, rfl, y, ty, d, wf, k, B, above n S, rfl, h2, ⟨kvs, hk, hw⟩, by omega, above_asc hS, by omega, cy, fun v1 H1 t1 s1 hv1 c1 e1 d1 => q v1 H1 t1 s1 hv1 (c1.sub sub) (fun r => by rw [e1, ev, if_pos rfl]) (by show _ ≤ max ty.dep to.dep + 1; omega)⟩
          | false => exact ⟨_, rfl, _, rfl, o, to, d, wf, k, B, above n S, rfl, h3, ⟨kvs, hk, hw⟩, by omega, above_asc hS, by omega, co, fun v1 H1 t1 s1 hv1 c1 e1 d1 => q v1 H1 t1 s1 hv1 (c1.sub sub) (fun r => by rw [e1, ev, if_neg Bool.false_ne_true]) (by show _ ≤ max ty.dep to.dep + 1; omega)⟩
        | none =>
          refine ⟨_, rfl, _, rfl, _, rfl, y, ty, d, wf, k, B, above n S, rfl, h2, ⟨kvs, hk, hw⟩, by omega, above_asc hS, by omega, cy, fun v1 H1 t1 s1 hv1 c1 e1 dd1 => ?_⟩
          refine ⟨_, rfl, _, rfl, o, to, d, wf, k, B, above n S, rfl, h3.same s1, Wd.kp s1.kp ⟨kvs, hk, hw⟩, by omega, above_asc hS, by omega, co, fun v2 H2 t2 s2 hv2 c2 e2 dd2 => ?_⟩
          rw [left_above] at c1 c2
          have hS' : Asc (left wf S) := hS.sublist List.filter_sublist
          have hn' : n ∈ left wf S := List.mem_filter.mpr ⟨hn, by rw [hb]; rfl⟩
          have l' : (left wf S).length ≤ S.length := List.filter_sublist.length_le
          have l2 := above_len hS' hn'
          have dy : t1.dep ≤ 60 := by omega
          have d0 : t2.dep ≤ 60 := by omega
          refine ⟨n, v1, v2, t1, t2, k, rfl, hv1.same s2, hv2, c1.hom Lg.k, c2.hom Lg.k, dy, d0, fun v H3 s3 hv => ?_⟩
          refine q v H3 _ (fun b o z => s3 b o (s2 b o (s1 b o z))) hv (mkNd_cn' hS' hn' c1 c2) (fun r => ?_) (Nat.le_trans (mkNd_dep _ _ _) (by show _ ≤ max ty.dep to.dep + 1; omega))
          rw [mkNd_ev, e1, e2]
          show _ = (if (over wf r) n = true then _ else _)
          rw [show (over wf r) n = r n by unfold over; rw [hb]; rfl]
theorem ok_wWords9 {f : Addr} {fd : FuncData} (F : Fun K "words" "Worth.words" sWWords f fd) (T : GloW mg) (W : WMk P w K mg base C) (dn : Df P w K mg base "numbers_in" 23 ["tree"] (spNumbers9 21)) : FnOk P w K mg base CX0 24 f fd ["self"] (spWords9 C) := by
  refine F.ok scWWords (fun vs H Q E h => ?_) (fun cdv A outer s H vs Q E hr h => ?_)
  · obtain ⟨a, t, k, B, S, rfl, _⟩ := h
    rfl
  · obtain ⟨a, t, k, B, S, rfl, ⟨dx, v1, h1, hv1⟩, hS, h20, d20, c1, q⟩ := h
    refine ⟨_, (pss_one (ps_ret (pe_callTy call_tuple_of (by rfl) T.tuple (by decide +kernel) (pa_cons (pe_df (E := E0) dn hr (by rfl) (pa_cons (pe_fld (pv 0) rfl) pa_nil)) pa_nil)))), ?_⟩
    refine ⟨_, rfl, a, C, dx, _, _, rfl, h1, W.cl, W.nt, rfl, v1, t, k, B, S, rfl, hv1, by omega, hS, by omega, c1, fun p H3 ns s3 h3 an mn _ => ?_⟩
    refine ⟨p, _, rfl, .inl ⟨SqL.of h3, fun p2 n2 => ?_⟩⟩
    have s4 := same_upd (o := .tup (ns.map V.int)) n2
    exact q p2 _ ns (fun b o z => s4 b o (s3 b o z)) upd_same an mn
theorem ok_wCall9 {f : Addr} {fd : FuncData} (F : Fun K "__call__" "Worth.__call__" sWCall f fd) (T : GloW mg) (W : WMk P w K mg base C) (dr : Df P w K mg base "reduced" 23 ["tree", "words"] (spReduced9 21)) (dw : PrW P w K mg base C "words" 24 (spWords9 C)) : FnOk P w K mg base CX0 26 f fd ["self", "words"] (spCallW9 C) := by
  refine F.ok scWCall (fun vs H Q E h => ?_) (fun cdv A outer s H vs Q E hr h => ?_)
  · obtain ⟨a, d, t, wf, k, B, S, rfl, _⟩ := h
    rfl
  · obtain ⟨a, d, t, wf, k, B, S, rfl, ha, hd, hS, h20, d20, c1, known, q⟩ := h
    have hu := hu_of hr
    refine ⟨_, (pss_cons (ps_setLc (i := 2) (own := [("number", 3)]) (g := gName 3) (by rfl) scWCall.nd rfl rfl (sw_true rfl rfl rfl (by decide +kernel)) (pi_tup (pe_pr dw W.cl hr (pv 0))) (blkOk_by (own := [("number", 3)]) (N := ["self", "words", "missing", "number"]) (sc := defScope sWCall) (by decide +kernel)) (fun _ _ _ _ _ => (pg_name (i := 3) scWCall.nd rfl (Or.inl rfl))) (fun _ _ _ _ _ => (pts_one (pt_cmp (pc_dnotin hu (pv 3) (pv 1))))) (fun _ _ _ _ _ => (pv 3)))
      (pss_cons (ps_if (pt_cmpR (op_neD hr.units) (pv 2) (pe_lst pa_nil) (nomark _)) (pss_one ps_never) pss_nil)
      (pss_one (ps_ret (pe_df (E := E0) dr (hr.mono (by omega)) (by rfl) (pa_cons (pe_fld (pv 0) rfl) (pa_cons (pv 1) pa_nil))))))), ?_⟩
    have ha' := ha
    obtain ⟨dx, v1, h1, hv1⟩ := ha'
    refine ⟨_, rfl, a, dx, _, rfl, h1, a, t, k, B, S, rfl, ha, hS, h20, d20, c1, fun p H1 ns s1 e1 an mn => ?_⟩
    refine ⟨p, rfl, ⟨_, SqT.of e1⟩, fun Dl nD => lc_tup (xs := ns.map V.int) (fun i H' => Same H1 H' ∧ H' Dl = some (.lst [])) ?_ ?_ ?_ ?_⟩
    · exact ⟨same_upd nD, upd_same⟩
    · rintro i H' _ ⟨s, _⟩
      exact SqT.of (s _ _ e1)
    · rintro i x H' hx ⟨s, e⟩
      rw [List.getElem?_map] at hx
      obtain ⟨n, hn, rfl⟩ := Option.map_eq_some_iff.mp hx
      have nS : n ∈ S := c1.mem n ((mn n).mp (List.mem_of_getElem? hn))
      obtain ⟨kvs, hk, hw⟩ := hd.kp s1.kp |>.kp s.kp
      have hg := DGet.k (k := Sum.inl n) hk
      rw [hw n] at hg
      refine ⟨rfl, _, rfl, _, rfl, d, _, rfl, hg, ?_⟩
      have z := known n nS
      cases hwn : wf n with
      | none => rw [hwn] at z; cases z
      | some b => exact ⟨_, rfl, s, e⟩
    · rintro H2 ⟨s2, e2⟩
      have s02 : Same H H2 := fun b o z => s2 b o (s1 b o z)
      refine ⟨_, rfl, (by show 0 ≤ sizeLine; decide), fun p0 n0 => ?_⟩
      have s3 := same_upd (o := .lst []) n0
      refine ⟨_, _, .lst (SqL.of (s3 _ _ e2)) .nil, .lst (SqL.of upd_same) .nil, shaped_ints [], shaped_ints [], _, rfl, ?_⟩
      refine ite2 (fun hb => by cases hb) (fun _ => ?_)
      have s03 : Same H (upd H2 p0 (.lst [])) := fun b o z => s3 b o (s02 b o z)
      refine ⟨_, rfl, a, C, dx, _, _, rfl, s03 _ _ h1, W.cl, W.nt, rfl, _, rfl, v1, t, d, wf, k, B, S, rfl, hv1.same s03, hd.kp s03.kp, by omega, hS, by omega, c1, fun v3 H3 t3 s4 h3 c3 e3 _ => ?_⟩
      have hl : left wf S = [] := List.filter_eq_nil_iff.mpr fun n hn => by
        have := known n hn
        cases hz : wf n with
        | none => rw [hz] at this; cases this
        | some b => simp
      rw [hl] at c3
      cases t3 with
      | nd => exact c3.elim
      | lf l =>
        obtain rfl := h3.lf_of
        exact q l H3 (fun b o z => s4 b o (s03 b o z)) c3.lf_of fun r => e3 r
theorem ok_found9 {f : Addr} {fd : FuncData} (F : Fun K "_law_found" "_law_found" sFound f fd) (T : GloW mg) (hm : mg "_law_found" = some (.ref f)) :
    ∀ m, m ≤ 50 → FnOk P w K mg base CX0 (1 + m) f fd ["_law_tree_here"] (spFound9 m) := by
  intro m
  induction m with
  | zero =>
    intro _
    refine F.ok scFound (k := 0) (fun vs H Q E h => ?_) (fun cdv A outer s H vs Q E hr h => ?_)
    · obtain ⟨v, t, k, B, S, rfl, _⟩ := h
      rfl
    · obtain ⟨v, t, k, B, S, rfl, _, hl, _⟩ := h
      omega
  | succ m IH =>
    intro hm50
    have ih : Df P w K mg base "_law_found" (1 + m) ["_law_tree_here"] (spFound9 m) := ⟨f, fd, IH (by omega), hm, F.kp, F.binds fun _ _ _ _ _ _ us hl => match us, hl with | [_], _ => rfl⟩
    refine F.ok scFound (k := 1 + m) (fun vs H Q E h => ?_) (fun cdv A outer s H vs Q E hr h => ?_)
    · obtain ⟨v, t, k, B, S, rfl, _⟩ := h
      rfl
    · obtain ⟨v, t, k, B, S, rfl, hv, hl, hS, h31, ct, q⟩ := h
      refine ⟨_, (pss_cons (ps_if (pt_not (pt_val (pe_callB (id := "isinstance") (show CallR _ (.builtin "isinstance") (rIsi K) from call_isi) (by rfl) T.isinstance (by decide +kernel) (pa_cons (pv 0) (pa_cons (pe_bltn (v := .ty "tuple") (by rfl) T.tuple (by decide +kernel) rfl) pa_nil))))) (pss_one (ps_ret (pe_lst pa_nil))) pss_nil)
      (pss_one (ps_ret (pe_callB (cr_sortedSetB rfl) (by rfl) T.sorted (by decide +kernel) (pa_cons (pe_callTy (cr_setI rfl) (by rfl) T.set (by decide +kernel) (pa_cons (pe_op op_cat (pe_op op_cat (pe_lst (pa_cons (pe_ix ix_tup (pv 0) pe_int (fun _ _ => rfl)) pa_nil)) (pe_df (E := E0) ih hr (by rfl) (pa_cons (pe_ix ix_tup (pv 0) pe_int (fun _ _ => rfl)) pa_nil))) (pe_df (E := E0) ih hr (by rfl) (pa_cons (pe_ix ix_tup (pv 0) pe_int (fun _ _ => rfl)) pa_nil))) pa_nil)) pa_nil))))), ?_⟩
      obtain ⟨tyv, y1, y2⟩ := tv_tuple (K := K) hv
      refine ⟨_, rfl, _, _, _, _, _, rfl, .ty "tuple", y1, y2, _, rfl, ?_⟩
      cases t with
      | lf l =>
        refine ⟨(by show 0 ≤ sizeLine; decide), fun p np => ?_⟩
        exact q p _ [] (same_upd np) upd_same .nil (fun n => Iff.rfl) (Nat.zero_le _)
      | nd n ty to =>
        obtain ⟨a, y, o, rfl, h1, h2, h3⟩ := hv.nd_of
        have hl : max ty.dep to.dep + 1 < m + 1 := hl
        obtain ⟨hn, _, cy, co⟩ := Cn.below hS ct
        have dl := above_len hS hn
        refine ⟨_, rfl, a, _, _, _, rfl, rfl, SqT.of h1, rfl, (by show 1 ≤ sizeLine; decide), fun p0 np0 => ?_⟩
        have s0 := same_upd (o := .lst [.int n]) np0
        have h1a := s0 _ _ h1
        refine ⟨_, rfl, a, _, _, _, rfl, rfl, SqT.of h1a, rfl, y, ty, k, B, above n S, rfl, h2.same s0, by omega, above_asc hS, by omega, cy, fun p1 H1 n1 s1 e1 a1 m1 l1 => ?_⟩
        have e0 := s1 _ _ (show (upd H p0 (.lst [.int n])) p0 = _ from upd_same)
        refine ⟨p0, p1, _, _, rfl, rfl, e0, e1, ?_, fun p2 np2 => ?_⟩
        · rw [List.length_map]
          exact Nat.le_trans (by show 1 + n1.length ≤ 400; omega) (by decide)
        have s2 := same_upd (o := .lst ([V.int n] ++ n1.map V.int)) np2
        have s02 : Same H (upd H1 p2 (.lst ([V.int n] ++ n1.map V.int))) := fun b o z => s2 b o (s1 b o (s0 b o z))
        refine ⟨_, rfl, a, _, _, _, rfl, rfl, SqT.of (s02 _ _ h1), rfl, o, to, k, B, above n S, rfl, h3.same s02, by omega, above_asc hS, by omega, co, fun p3 H3 n3 s3 e3 a3 m3 l3 => ?_⟩
        have e2 := s3 _ _ (show (upd H1 p2 (.lst ([V.int n] ++ n1.map V.int))) p2 = _ from upd_same)
        have len : ((n :: n1) ++ n3).length ≤ 401 := by rw [List.length_append, List.length_cons]; omega
        have emap : ((n :: n1) ++ n3).map V.int = ([V.int n] ++ n1.map V.int) ++ n3.map V.int := by rw [List.map_append]; rfl
        refine ⟨p2, p3, _, _, rfl, rfl, e2, e3, ?_, fun p4 np4 => ?_⟩
        · rw [← List.length_append, ← emap, List.length_map]; exact Nat.le_trans len (by decide)
        have s4 := same_upd (o := .lst (([V.int n] ++ n1.map V.int) ++ n3.map V.int)) np4
        refine ⟨p4, (n :: n1) ++ n3, rfl, SqL.of (by rw [emap]; exact upd_same), by omega, fun p5 c hc np5 => ?_⟩
        have s5 := same_upd (o := SetO w p5 (fun j => decide (j ∈ (n :: n1) ++ n3)) c) np5
        refine ⟨p5, _, c, rfl, upd_same, by rw [sizeLine_eq]; omega, fun ns p6 asc mem hlen np6 => ?_⟩
        have s6 := same_upd (o := .lst (ns.map V.int)) np6
        have mem' : ∀ x, x ∈ ns ↔ x ∈ (Tr.nd n ty to).nums := fun x => by
          show _ ↔ x ∈ n :: (ty.nums ++ to.nums)
          rw [mem x, decide_eq_true_iff, List.cons_append, List.mem_cons, List.mem_cons, List.mem_append, List.mem_append, m1, m3]
        refine q p6 _ ns (fun b o z => s6 b o (s5 b o (s4 b o (s3 b o (s02 b o z))))) upd_same asc mem' ?_
        exact (asc_sub hS asc fun x hx => ct.mem x ((mem' x).mp hx)).length_le
theorem ok_is9 {f : Addr} {fd : FuncData} (F : Fun K "_law_is" "_law_is" sIs f fd) (T : GloF mg) (W : WIs9 P w K mg base C) (dtx : Df P w K mg base "_law_text" 14 ["_law_tree_here"] (spText 13)) (dfo : Df P w K mg base "_law_found" 14 ["_law_tree_here"] (spFound9 13)) :
    FnG P w K mg base CX0 28 f fd ["_law_worth", "_law_tree_here"] (spIs9 C) := by
  refine okG F scIs (k := 27) (fun vs H Q E h => ?_) (fun cdv A outer s H vs Q E hr gd h => ?_)
  · obtain ⟨x, v, t, k, k', B, B', S, fv, rfl, _⟩ := h
    rfl
  · obtain ⟨x, v, t', k, k', B, B', S, fv, rfl, ⟨a, t, rfl, hw, ct, et⟩, hv, ct', et', hS, h12, d12, small, B0, B1, q⟩ := h
    obtain rfl : t = t' := Cn.one hS ct ct' fun r => by rw [et, et']
    have sml := Cn.sml B0 (by omega) small ct'
    have sm := Sml.sm sml
    obtain ⟨gs, hgs, ms⟩ := W.str
    obtain ⟨gr, hgr, mr⟩ := W.rpr
    have r25 : Room 25 _ := hr.mono (show 25 ≤ 27 by decide)
    refine ⟨_, (pss_cons (ps_set (i := 2) scIs.nd rfl (Or.inl rfl) (pe_df (E := E0) dtx (hr.mono (by decide)) (by rfl) (pa_cons (pv 1) pa_nil)))
      (pss_cons (ps_if (PW.pt (pw_or (pt_not (pt_val (pe_callB (id := "isinstance") (show CallR _ (.builtin "isinstance") (rIsi K) from call_isi) (by rfl) T.isinstance (by decide +kernel) (pa_cons (pv 0) (pa_cons (pe_glob (v := .ref C) (by rfl) W.nm rfl) pa_nil))))) (pw_or1 (pt_cmpR (op_neD hr.units) (pe_lst (pa_cons (pe_callTy (call_strO hgs ms (hr.mono (by decide))) (by rfl) T.str (by decide +kernel) (pa_cons (pv 0) pa_nil)) (pa_cons (pe_callB (call_reprO hgr mr r25) (by rfl) T.repr (by decide +kernel) (pa_cons (pv 0) pa_nil)) pa_nil))) (pe_lst (pa_cons (pv 2) (pa_cons (pe_op op_add_str (pe_op op_add_str pe_str (pv 2)) pe_str) pa_nil))) (nomark _))))) (pss_one (ps_ret pe_bl)) pss_nil)
      (pss_cut (ps_par (i := 3) (j := 4) (by rfl) scIs.nd rfl rfl (by decide) rfl rfl (pa_cons (pe_ifExp (pt_val (pe_callB (id := "isinstance") (show CallR _ (.builtin "isinstance") (rIsi K) from call_isi) (by rfl) T.isinstance (by decide +kernel) (pa_cons (pv 1) (pa_cons (pe_bltn (v := .ty "tuple") (by rfl) T.tuple (by decide +kernel) rfl) pa_nil)))) pe_non (pv 1)) (pa_cons (pv 1) pa_nil)) (by rfl))
      (pss_cons (ps_while PassesOwn.never (pt_val (pe_callB (id := "isinstance") (show CallR _ (.builtin "isinstance") (rIsi K) from call_isi) (by rfl) T.isinstance (by decide +kernel) (pa_cons (pv 4) (pa_cons (pe_bltn (v := .ty "tuple") (by rfl) T.tuple (by decide +kernel) rfl) pa_nil)))) (pss_one (ps_set (i := 4) scIs.nd rfl (Or.inl rfl) (pe_ix ix_tup (pv 4) pe_int (fun _ _ => rfl)))))
      (pss_cons (ps_set (i := 5) scIs.nd rfl (Or.inl rfl) (pe_lst (pa_cons (pe_pr W.words W.cl r25 (pv 0)) (pa_cons (pe_pr W.plain W.cl r25 (pv 0)) (pa_cons (pe_pr W.isT W.cl r25 (pv 0)) pa_nil)))))
      (pss_one (ps_ret (pe_cmpR op_eq (pe_callB (call_reprD gd hr.units) (by rfl) T.repr (by decide +kernel) (pa_cons (pv 5) pa_nil)) (pe_callB (call_reprD gd hr.units) (by rfl) T.repr (by decide +kernel) (pa_cons (pe_lst (pa_cons (pe_callTy call_tuple_of (by rfl) T.tuple (by decide +kernel) (pa_cons (pe_df (E := E0) dfo (hr.mono (by decide)) (by rfl) (pa_cons (pv 1) pa_nil)) pa_nil)) (pa_cons (pv 3) (pa_cons (pe_callB (id := "isinstance") (show CallR _ (.builtin "isinstance") (rIsi K) from call_isi) (by rfl) T.isinstance (by decide +kernel) (pa_cons (pv 4) (pa_cons (pe_bltn (v := .ty "bool") (by rfl) T.bool (by decide +kernel) rfl) pa_nil))) pa_nil)))) pa_nil)) (nomark _))))))))), ?_⟩
    refine ⟨_, rfl, v, t, rfl, hv, by omega, d12, sm, ?_⟩
    have hw' := hw
    obtain ⟨dx, u, hi, hu⟩ := hw'
    refine ⟨_, rfl, _, _, _, _, _, rfl, .own C, W.ty hw, W.kw, _, rfl, ?_⟩
    refine ⟨_, rfl, a, dx, _, rfl, hi, a, t, rfl, hw, d12, sm, _, rfl, ?_⟩
    refine ⟨_, rfl, a, dx, _, rfl, hi, a, t, rfl, hw, d12, sm, _, rfl, (by show 2 ≤ sizeLine; decide), fun p1 np1 => ?_⟩
    have s1 := same_upd (o := .lst [.str (txt t), .str (rtx t)]) np1
    have fit := txt_fits sm d12
    have len := txt_len sm
    have p : 2 ^ t.dep ≤ 2 ^ 12 := Nat.pow_le_pow_right (by decide) d12
    have sz : sizeLine = 16777216 := rfl
    have w0 : Str.length (Str.ofString "Worth('") = 7 := by decide +kernel
    have c1 : Str.length (Str.ofString "')") = 2 := by decide +kernel
    refine ⟨_, rfl, _, rfl, _, _, rfl, rfl, (by rw [w0]; omega), _, _, rfl, rfl, (by rw [Str.length_append, w0, c1]; omega), (by show 2 ≤ sizeLine; decide), fun p2 np2 => ?_⟩
    have s2 := same_upd (o := .lst [.str (txt t), .str ("Worth('" ++ txt t ++ "')")]) np2
    have ok1 := strOk_calm (calm_txt t)
    have ok2 : PyData.strOk (rtx t) = true := strOk_app (strOk_app (strOk_of _) ok1) (strOk_of _)
    refine ⟨.list [.str (txt t), .str (rtx t)], .list [.str (txt t), .str (rtx t)], .lst (SqL.of (s2 _ _ upd_same)) (.cons (.str _) (.cons (.str _) .nil)), .lst (SqL.of upd_same) (.cons (.str _) (.cons (.str _) .nil)), shaped2 ok1 ok2, shaped2 ok1 ok2, _, rfl, ?_⟩
    rw [eqv2]
    refine ite2 (fun hb => absurd hb Bool.false_ne_true) (fun _ => ?_)
    have sA : Same H (upd (upd H p1 (.lst [.str (txt t), .str (rtx t)])) p2 (.lst [.str (txt t), .str ("Worth('" ++ txt t ++ "')")])) := fun b o z => s2 b o (s1 b o z)
    generalize (upd (upd H p1 (.lst [.str (txt t), .str (rtx t)])) p2 (.lst [.str (txt t), .str ("Worth('" ++ txt t ++ "')")])) = HA at sA
    have hvA := hv.same sA
    have homk : t.hom k' := ct'.hom Lg.k
    have kk : k = k' := hom_ne (ct.hom Lg.k) homk
    refine ⟨fun σ' H' => ∃ pl : V, σ' = [some (.ref a), some v, some (.str (txt t)), some pl, some v, none] ∧ H' = HA ∧ Dp K HA pl (plainD t), ?_, ?_⟩
    · obtain ⟨ty, y1, y2⟩ := tv_tuple (K := K) hvA
      refine ⟨_, rfl, _, _, _, _, _, rfl, .ty "tuple", y1, y2, _, rfl, ?_⟩
      cases t with
      | lf l =>
        obtain rfl := hvA.lf_of
        exact ⟨_, rfl, _, rfl, _, _, rfl, _, rfl, rfl, plain_dp hvA⟩
      | nd n ty to => exact ⟨_, rfl, _, _, rfl, _, rfl, rfl, .non⟩
    · rintro σ' H' ⟨pl, rfl, rfl, dpl⟩
      refine ⟨fun m σ' H2 => ∃ (v' : V) (t2 : Tr), σ' = [some (.ref a), some v, some (.str (txt t)), some pl, some v', none] ∧ H2 = H' ∧ Tv H' v' t2 ∧ t2.dep = m ∧ t2.hom k', ⟨t.dep, v, t, rfl, rfl, hvA, rfl, homk⟩, ?_⟩
      rintro m σ' H2 ⟨v', t2, rfl, rfl, hv2, rfl, hk2⟩
      obtain ⟨ty, y1, y2⟩ := tv_tuple (K := K) hv2
      refine ⟨_, rfl, _, _, _, _, _, rfl, .ty "tuple", y1, y2, _, rfl, ?_⟩
      cases t2 with
      | nd n ty to =>
        obtain ⟨b, y, o, rfl, h1, h2, h3⟩ := hv2.nd_of
        refine ⟨fun σ3 H3 => ∃ (v3 : V) (t3 : Tr), σ3 = [some (.ref a), some v, some (.str (txt t)), some pl, some v3, none] ∧ H3 = H2 ∧ Tv H2 v3 t3 ∧ t3.dep < (Tr.nd n ty to).dep ∧ t3.hom k', fun σ3 H3 ⟨v3, t3, e1, e2, e3, e4, e5⟩ => ⟨_, e4, v3, t3, e1, e2, e3, rfl, e5⟩, ?_⟩
        have hdep : (Tr.nd n ty to).dep = max ty.dep to.dep + 1 := rfl
        exact ⟨_, rfl, b, _, _, _, rfl, rfl, SqT.of h1, rfl, y, ty, rfl, rfl, h2, by omega, hk2.1⟩
      | lf l =>
        obtain rfl := hv2.lf_of
        have hwA := hw.kp (Same.kp sA)
        have hiA := sA _ _ hi
        refine ⟨_, rfl, a, dx, _, rfl, hiA, a, t, k, B, S, rfl, hwA, hS, h12, by omega, ct, fun p3 H3 ns s3 e3 as mn => ?_⟩
        have hw3 := hwA.kp (Same.kp s3)
        refine ⟨_, rfl, a, dx, _, rfl, s3 _ _ hiA, a, t, rfl, hw3, ?_⟩
        refine ⟨_, rfl, a, dx, _, rfl, s3 _ _ hiA, a, t, k, rfl, hw3, by omega, ct.hom Lg.k, (by show 3 ≤ sizeLine; decide), fun p4 np4 => ?_⟩
        have s4 : ∀ o, Same H3 (upd H3 p4 o) := fun o => same_upd np4
        have hnn : ∀ n ∈ ns, n.natAbs.log2 < 1920 := fun n hn => log_lt (small n (ct.mem n ((mn n).mp hn))) (by decide) (by decide)
        have l12 : ns.length ≤ 200 := Nat.le_trans (asc_sub hS as fun n hn => ct.mem n ((mn n).mp hn)).length_le h12
        obtain ⟨o1, o2, o3, o4⟩ := told_ok9 (k := k) hnn l12 sml
        have d1 : ∀ {Hy : Hp} {x y : Addr} {pv : V}, Hy x = some (.lst [.ref y, pv, .bl k]) → Hy y = some (.tup (ns.map V.int)) → Dp K Hy pv (plainD t) → Dp K Hy (.ref x) (toldD ns t k) := fun e1 e2 e3 => by
          rw [told_eq]
          exact .lst (SqL.of e1) (.cons (.tup (SqT.of e2) (dp_ints ns)) (.cons e3 (.cons (.bl k) .nil)))
        refine ⟨_, rfl, _, _, rfl, d1 upd_same (s4 _ _ _ e3) (plain_dp (v := v) ((hvA.same s3).same (s4 _))), o1, o2, o3, o4, ?_⟩
        refine ⟨_, rfl, v, t, k, B, S, rfl, (hvA.same s3).same (s4 _), by omega, hS, by omega, ct, fun p5 H5 ms s5 e5 as5 mn5 _ => ?_⟩
        obtain rfl : ns = ms := asc_eq as as5 fun n => by rw [mn, mn5]
        refine ⟨p5, _, rfl, .inl ⟨SqL.of e5, fun p6 np6 => ?_⟩⟩
        have s6 := same_upd (o := .tup (ns.map V.int)) np6
        have isb : ∃ ty2, TyX K (upd H5 p6 (.tup (ns.map V.int))) (Lf.v l) ty2 ∧ PySem.W.kitOne K ty2 (.type "bool") = some k := by
          rw [kk]
          cases l with
          | i n => exact ⟨_, .base (.int n), by rw [show k' = false from hk2]; exact kit_ty (r := false) (by decide +kernel)⟩
          | b n => exact ⟨_, .base (.bl n), by rw [show k' = true from hk2]; exact kit_ty (r := true) (by decide +kernel)⟩
        obtain ⟨ty2, z1, z2⟩ := isb
        refine ⟨_, rfl, _, rfl, _, _, _, _, _, rfl, .ty "bool", z1, z2, (by show 3 ≤ sizeLine; decide), fun p7 np7 => ?_⟩
        have s7 := same_upd (o := .lst [.ref p6, pl, .bl k]) np7
        have sZ : Same H2 (upd (upd H5 p6 (.tup (ns.map V.int))) p7 (.lst [.ref p6, pl, .bl k])) := fun b o z => s7 b o (s6 b o (s5 b o (s4 _ b o (s3 b o z))))
        refine ⟨_, _, rfl, d1 upd_same (s7 _ _ upd_same) (Dp.same sZ dpl), o1, o2, o3, o4, rfl, ?_⟩
        rw [decide_eq_true rfl]
        exact q _ fun b o z => sZ b o (sA b o z)
end
end Law
set_option Elab.async false
set_option linter.all false
set_option maxRecDepth 100000
set_option maxHeartbeats 1000000
namespace Law
open PySem PySem.Spec PyProof.Rows L2 Cor
theorem iteT' {c A B : Prop} [Decidable c] (hc : c) (h : A) : if c then A else B := by rw [if_pos hc]; exact h
theorem iteF' {c A B : Prop} [Decidable c] (hc : ¬ c) (h : B) : if c then A else B := by rw [if_neg hc]; exact h
/-- each plain value more by b -/
def addT (b : Int) : Tr → Tr
  | .lf (.i n) => .lf (.i (n + b))
  | .lf (.b v) => .lf (.b v)
  | .nd n y o => .nd n (addT b y) (addT b o)
theorem addT_inj {b : Int} : ∀ {y o : Tr}, addT b y = addT b o → y = o
  | .lf (.i n), .lf (.i m), h => by
    have h : Tr.lf (.i (n + b)) = .lf (.i (m + b)) := h
    injection h with h
    injection h with h
    rw [show n = m from by omega]
  | .lf (.b n), .lf (.b m), h => h
  | .lf (.i n), .lf (.b m), h => by cases (show Tr.lf (.i (n + b)) = .lf (.b m) from h)
  | .lf (.b n), .lf (.i m), h => by cases (show Tr.lf (.b n) = .lf (.i (m + b)) from h)
  | .lf (.i n), .nd _ _ _, h => by cases (show Tr.lf (.i (n + b)) = .nd _ _ _ from h)
  | .lf (.b n), .nd _ _ _, h => by cases (show Tr.lf (.b n) = .nd _ _ _ from h)
  | .nd _ _ _, .lf (.i n), h => by cases (show Tr.nd _ _ _ = .lf (.i (n + b)) from h)
  | .nd _ _ _, .lf (.b n), h => by cases (show Tr.nd _ _ _ = .lf (.b n) from h)
  | .nd n y o, .nd m y' o', h => by
    have h : Tr.nd n (addT b y) (addT b o) = .nd m (addT b y') (addT b o') := h
    injection h with h1 h2 h3
    rw [h1, addT_inj h2, addT_inj h3]
theorem addT_dep {b : Int} : ∀ t : Tr, (addT b t).dep = t.dep
  | .lf (.i _) => rfl
  | .lf (.b _) => rfl
  | .nd n y o => by
    show max (addT b y).dep (addT b o).dep + 1 = max y.dep o.dep + 1
    rw [addT_dep y, addT_dep o]
theorem addT_hom {b : Int} {k : Bool} : ∀ {t : Tr}, t.hom k → (addT b t).hom k
  | .lf (.i _), h => h
  | .lf (.b _), h => h
  | .nd n y o, h => ⟨addT_hom h.1, addT_hom h.2⟩
theorem topsOf_up {n : Int} : ∀ {t : Tr}, t.up n → ∀ m ∈ topsOf t, n < m
  | .lf _, h, m, hm => by cases hm
  | .nd j _ _, h, m, hm => by
    rw [List.mem_singleton.mp (show m ∈ [j] from hm)]
    exact h.1
theorem caseTop_up {n : Int} {b : Bool} : ∀ {t : Tr}, t.up n → caseTop n b t = t
  | .lf _, _ => rfl
  | .nd m y o, h => by rw [caseTop_nd, if_neg (by have := h.1; omega)]
def spChoice9 : Sp := fun vs H Q _ => ∃ (n : Int) (y o : V) (ty to : Tr) (k : Bool), vs = [.int n, y, o] ∧ Tv H y ty ∧ Tv H o to ∧ ty.up n ∧ to.up n ∧ ty ≠ to ∧ ty.hom k ∧ to.hom k ∧ ty.dep ≤ 40 ∧ to.dep ≤ 40 ∧
  ∀ v H', Same H H' → Tv H' v (.nd n ty to) → Q v H'
def spEither9 (C : Addr) : Sp := fun vs H Q _ => ∃ (n : Int) (x y : V) (tx ty : Tr) (k : Bool), vs = [.int n, x, y] ∧ 1 ≤ n ∧ Given C H x tx ∧ Given C H y ty ∧ tx.up n ∧ ty.up n ∧ tx ≠ ty ∧ tx.hom k ∧ ty.hom k ∧ tx.dep ≤ 20 ∧ ty.dep ≤ 20 ∧ NewW C H (.nd n tx ty) Q
def spComb9 (m : Nat) : Sp := fun vs H Q _ => ∃ (v : V) (t : Tr) (b : Int) (B : Nat), vs = [.str "+", v, .int b] ∧ Tv H v t ∧ t.dep < m ∧ m ≤ 50 ∧ B ≤ 1000 ∧ allT (Lg false B) t ∧ Lg false B (.i b) ∧ nqT t ∧
  ∀ v' H', Same H H' → Tv H' v' (addT b t) → Q v' H'
def spAdd9 (C : Addr) : Sp := fun vs H Q _ => ∃ (a : Addr) (t : Tr) (b : Int) (B : Nat), vs = [.ref a, .int b] ∧ Wo C H a t ∧ t.dep ≤ 20 ∧ B ≤ 1000 ∧ allT (Lg false B) t ∧ Lg false B (.i b) ∧ nqT t ∧ NewW C H (addT b t) Q
section
variable {P : Program} {w : World} {K : PySem.W.Frag} {mg : Str → Option Value} {base : Heap} {C : Addr}
theorem ok_choice9 {f : Addr} {fd : FuncData} (F : Fun K "choice" "choice" sChoice f fd) (T : GloW mg) (dn : Df P w K mg base "node" 1 ["number", "yes", "no"] spNode) (dc : Df P w K mg base "case_of" 2 ["tree", "number", "truth"] spCase) (dt : DfR P w K mg base "tops" 2 spTops) : FnOk P w K mg base CX0 3 f fd ["number", "yes", "no"] spChoice9 := by
  refine F.ok scChoice (k := 2) (fun vs H Q E h => ?_) (fun cdv A outer s H vs Q E hr h => ?_)
  · obtain ⟨n, y, o, ty, to, k, rfl, _⟩ := h
    rfl
  · obtain ⟨n, y, o, ty, to, k, rfl, hy, ho, uy, uo, ne, ky, ko, dy, d0, q⟩ := h
    refine ⟨_, (pss_cut (ps_set (i := 3) scChoice.nd rfl (Or.inl rfl) (pe_callBK (cr_minD rfl hr.units) (by rfl) T.min (by decide +kernel) (pa_cons (pe_dfR dt (hr.mono (by omega)) (by rfl) (pa_cons (pv 1) (pa_cons (pv 2) pa_nil))) pa_nil) (pk_cons (pv 0) pk_nil)))
      (pss_cons (ps_if (pt_cmpR op_ge (pv 3) (pv 0) (nomark _)) (pss_one (ps_ret (pe_df (E := E0) dn (hr.mono (by omega)) (by rfl) (pa_cons (pv 0) (pa_cons (pe_df (E := E0) dc (hr.mono (by omega)) (by rfl) (pa_cons (pv 1) (pa_cons (pv 0) (pa_cons pe_bl pa_nil)))) (pa_cons (pe_df (E := E0) dc (hr.mono (by omega)) (by rfl) (pa_cons (pv 2) (pa_cons (pv 0) (pa_cons pe_bl pa_nil)))) pa_nil)))))) pss_nil)
      (pss_cons ps_never
      (pss_cons ps_never
      (pss_one ps_never))))), ?_⟩
    have gt : ∀ x ∈ topsOf ty ++ topsOf to, n < x := fun x hx => (List.mem_append.mp hx).elim (topsOf_up uy x) (topsOf_up uo x)
    refine ⟨fun σ' H' => ∃ least : Int, σ' = [some (.int n), some y, some o, some (.int least), none, none] ∧ Same H H' ∧ (least = n ∨ least ∈ topsOf ty ++ topsOf to), ?_, ?_⟩
    · refine ⟨_, rfl, _, rfl, _, _, ty, to, rfl, hy, ho, fun p H1 s1 e1 => ?_⟩
      refine ⟨_, rfl, p, _, _, rfl, rfl, SqL.of e1, fun e => ?_, fun x hx hle => ?_⟩
      · exact ⟨n, rfl, s1, .inl rfl⟩
      · exact ⟨x, rfl, s1, .inr hx⟩
    · rintro σ' H1 ⟨least, rfl, s1, hor⟩
      have hy1 := hy.same s1
      have ho1 := ho.same s1
      have le : n ≤ least := hor.elim (fun z => by omega) fun z => by have := gt _ z; omega
      refine ⟨_, rfl, _, rfl, _, _, rfl, rfl, _, rfl, ?_⟩
      refine ite2 (fun hb => ?_) (fun hb => absurd (decide_eq_true le) hb)
      have fy : ty.from n := from_tops fun x hx => by have := topsOf_up uy x hx; omega
      have fo : to.from n := from_tops fun x hx => by have := topsOf_up uo x hx; omega
      refine ⟨_, rfl, _, rfl, _, rfl, _, ty, n, true, rfl, hy1, fy, fun v1 hv1 => ?_⟩
      refine ⟨_, rfl, _, rfl, _, to, n, false, rfl, ho1, fo, fun v2 hv2 => ?_⟩
      rw [caseTop_up uy] at hv1
      rw [caseTop_up uo] at hv2
      refine ⟨n, v1, v2, _, _, k, rfl, hv1, hv2, ky, ko, by omega, by omega, fun v H2 s2 hv => ?_⟩
      refine q v H2 (fun b o z => s2 b o (s1 b o z)) ?_
      rw [show mkNd n ty to = .nd n ty to from if_neg ne] at hv
      exact hv
theorem ok_wEither9 {f : Addr} {fd : FuncData} (F : Fun K "either" "Worth.either" sWEither f fd) (W : WMk P w K mg base C) (D : WD P w K mg base C) (dt : Df P w K mg base "tree_of" 2 ["value"] (spTreeOf C)) (dc : Df P w K mg base "choice" 3 ["number", "yes", "no"] spChoice9) : FnOk P w K mg base CX0 24 f fd ["number", "yes", "no"] (spEither9 C) := by
  refine F.ok scWEither (fun vs H Q E h => ?_) (fun cdv A outer s H vs Q E hr h => ?_)
  · obtain ⟨n, x, y, tx, ty, k, rfl, _⟩ := h
    rfl
  · obtain ⟨n, x, y, tx, ty, k, rfl, hn, hx, hy, ux, uy, ne, kx, ky, dx, dy, q⟩ := h
    refine ⟨_, (pss_cons (ps_if (PW.pt (pw_or (pt_not (pt_val (pe_df (E := E0) D.isint (hr.mono (by omega)) (by rfl) (pa_cons (pv 0) pa_nil)))) (pw_or1 (pt_cmpR op_lt (pv 0) pe_int (nomark _))))) (pss_one ps_never) pss_nil)
      (pss_cons (ps_par (i := 3) (j := 4) (by rfl) scWEither.nd rfl rfl (by decide) rfl rfl (pa_cons (pe_df (E := E0) dt (hr.mono (by omega)) (by rfl) (pa_cons (pv 1) pa_nil)) (pa_cons (pe_df (E := E0) dt (hr.mono (by omega)) (by rfl) (pa_cons (pv 2) pa_nil)) pa_nil)) (by rfl))
      (pss_cons (ps_if (pt_cmpR op_ne (pe_df (E := E0) D.truth hr (by rfl) (pa_cons (pv 3) pa_nil)) (pe_df (E := E0) D.truth hr (by rfl) (pa_cons (pv 4) pa_nil)) (nomark _)) (pss_one ps_never) pss_nil)
      (pss_one (ps_ret (pe_newW W (hr.mono (by omega)) (by rfl) (pe_df (E := E0) dc (hr.mono (by omega)) (by rfl) (pa_cons (pv 0) (pa_cons (pv 3) (pa_cons (pv 4) pa_nil)))))))))), ?_⟩
    refine ⟨_, rfl, _, _, true, false, rfl, .base (.int n), kit_ty (by decide +kernel), kit_ty (by decide +kernel), _, rfl, ?_⟩
    refine ⟨_, rfl, _, _, rfl, rfl, _, rfl, ?_⟩
    refine ite2 (fun hb => absurd (of_decide_eq_true hb) (by omega)) (fun hb => ?_)
    refine ⟨_, rfl, x, tx, rfl, hx, fun v1 h1 => ?_⟩
    refine ⟨_, rfl, y, ty, rfl, hy, fun v2 h2 => ?_⟩
    refine ⟨_, _, rfl, ?_⟩
    refine ⟨_, rfl, v1, tx, k, rfl, h1, by omega, kx, ?_⟩
    refine ⟨_, rfl, v2, ty, k, rfl, h2, by omega, ky, rfl, _, rfl, ?_⟩
    refine ite2 (fun hb => absurd hb (by simp)) (fun hb => ?_)
    refine ⟨_, rfl, _, rfl, _, rfl, n, v1, v2, tx, ty, k, rfl, h1, h2, ux, uy, ne, kx, ky, by omega, by omega, fun v3 H3 s3 h3 => ?_⟩
    exact fun a H' s' na ⟨dx, h⟩ => q a H' (fun b o z => s' b o (s3 b o z)) (by
      cases hz : H a with
      | none => rfl
      | some o => rw [s3 _ _ hz] at na; cases na) ⟨dx, v3, h, h3.same s'⟩
theorem ok_comb9 {f : Addr} {fd : FuncData} (F : Fun K "combined" "combined" sCombined f fd) (T : GloW mg) (dn : Df P w K mg base "node" 1 ["number", "yes", "no"] spNode) (dc : Df P w K mg base "case_of" 2 ["tree", "number", "truth"] spCase) (dt : DfR P w K mg base "tops" 2 spTops) (dj : Df P w K mg base "joined" 1 ["sign", "one", "other"] spJoined)
    (hm : mg "combined" = some (.ref f)) : ∀ m, FnOk P w K mg base CX0 (3 + m) f fd ["sign", "one", "other"] (spComb9 m) := by
  intro m
  induction m with
  | zero =>
    refine F.ok scCombined (k := 2) (fun vs H Q E h => ?_) (fun cdv A outer s H vs Q E hr h => ?_)
    · obtain ⟨v, t, b, B, rfl, _⟩ := h
      rfl
    · obtain ⟨v, t, b, B, rfl, _, hl, _⟩ := h
      omega
  | succ m IH =>
    have ih : Df P w K mg base "combined" (3 + m) ["sign", "one", "other"] (spComb9 m) := ⟨f, fd, IH, hm, F.kp, F.binds fun _ _ _ _ _ _ us hl => match us, hl with | [_, _, _], _ => rfl⟩
    refine F.ok scCombined (k := 3 + m) (fun vs H Q E h => ?_) (fun cdv A outer s H vs Q E hr h => ?_)
    · obtain ⟨v, t, b, B, rfl, _⟩ := h
      rfl
    · obtain ⟨v, t, b, B, rfl, hv, hl, h50, hB, ha, hb0, hq, q⟩ := h
      refine ⟨_, (pss_cons (ps_set (i := 3) scCombined.nd rfl (Or.inl rfl) (pe_dfR dt (hr.mono (by omega)) (by rfl) (pa_cons (pv 1) (pa_cons (pv 2) pa_nil))))
      (pss_cons (ps_if (pt_cmpR (op_eqD hr.units) (pv 3) (pe_lst pa_nil) (nomark _)) (pss_one (ps_ret (pe_df (E := E0) dj (hr.mono (by omega)) (by rfl) (pa_cons (pv 0) (pa_cons (pv 1) (pa_cons (pv 2) pa_nil)))))) pss_nil)
      (pss_cons (ps_set (i := 4) scCombined.nd rfl (Or.inl rfl) (pe_callB (cr_min rfl) (by rfl) T.min (by decide +kernel) (pa_cons (pv 3) pa_nil)))
      (pss_cons (ps_set (i := 5) scCombined.nd rfl (Or.inl rfl) (pe_df (E := E0) ih hr (by rfl) (pa_cons (pv 0) (pa_cons (pe_df (E := E0) dc (hr.mono (by omega)) (by rfl) (pa_cons (pv 1) (pa_cons (pv 4) (pa_cons pe_bl pa_nil)))) (pa_cons (pe_df (E := E0) dc (hr.mono (by omega)) (by rfl) (pa_cons (pv 2) (pa_cons (pv 4) (pa_cons pe_bl pa_nil)))) pa_nil)))))
      (pss_cons (ps_set (i := 6) scCombined.nd rfl (Or.inl rfl) (pe_df (E := E0) ih hr (by rfl) (pa_cons (pv 0) (pa_cons (pe_df (E := E0) dc (hr.mono (by omega)) (by rfl) (pa_cons (pv 1) (pa_cons (pv 4) (pa_cons pe_bl pa_nil)))) (pa_cons (pe_df (E := E0) dc (hr.mono (by omega)) (by rfl) (pa_cons (pv 2) (pa_cons (pv 4) (pa_cons pe_bl pa_nil)))) pa_nil)))))
      (pss_one (ps_ret (pe_df (E := E0) dn (hr.mono (by omega)) (by rfl) (pa_cons (pv 4) (pa_cons (pv 5) (pa_cons (pv 6) pa_nil))))))))))), ?_⟩
      have hv2 : Tv H (.int b) (.lf (.i b)) := .lf (.i b)
      refine ⟨_, rfl, _, rfl, _, _, t, .lf (.i b), rfl, hv, hv2, fun p H1 s1 e1 => ?_⟩
      refine ⟨_, rfl, (by show 0 ≤ sizeLine; decide), fun p0 n0 => ?_⟩
      have s2 := same_upd (o := .lst []) n0
      have e2 := s2 _ _ e1
      refine ⟨_, _, .lst (SqL.of e2) (dp_ints _), .lst (SqL.of upd_same) .nil, shaped_ints _, shaped_ints [], _, rfl, ?_⟩
      rw [eqv_nil]
      have s3 : Same H (upd H1 p0 (.lst [])) := fun b o z => s2 b o (s1 b o z)
      cases t with
      | lf l =>
        refine iteT' (show (decide (topsOf (.lf l) ++ topsOf (.lf (.i b)) = []) = true) from decide_eq_true rfl) ?_
        obtain rfl := hv.lf_of
        cases l with
        | b v => cases (show false = true from ha)
        | i n => exact ⟨_, rfl, _, rfl, _, rfl, .add, .i n, .i b, B, B, rfl, ha, hb0, hB, hB, q _ _ s3 (.lf (.i (n + b)))⟩
      | nd n ty to =>
        refine iteF' (show ¬ (decide (topsOf (.nd n ty to) ++ topsOf (.lf (.i b)) = []) = true) from fun z => by have := of_decide_eq_true z; cases this) ?_
        refine ⟨_, rfl, p, _, rfl, SqL.of e2, (by show 0 < 1; decide), fun least hls hle => ?_⟩
        obtain rfl : least = n := by
          rcases List.mem_append.mp hls with z | z
          · exact List.mem_singleton.mp (show least ∈ [n] from z)
          · cases z
        have hl : max ty.dep to.dep + 1 < m + 1 := hl
        have hv' := hv.same s3
        have hv2' := hv2.same s3
        have f1 : (Tr.nd least ty to).from least := from_tops fun x hx => by rw [List.mem_singleton.mp (show x ∈ [least] from hx)]; exact Int.le_refl _
        have f2 : (Tr.lf (.i b)).from least := from_tops fun x hx => by cases hx
        have ct : caseTop least true (.nd least ty to) = ty := by rw [caseTop_nd, if_pos rfl, if_pos rfl]
        have cf : caseTop least false (.nd least ty to) = to := by rw [caseTop_nd, if_pos rfl, if_neg Bool.false_ne_true]
        refine ⟨_, rfl, _, rfl, _, rfl, _, _, least, true, rfl, hv', f1, fun v3 hv3 => ?_⟩
        refine ⟨_, rfl, _, rfl, _, _, least, true, rfl, hv2', f2, fun v4 hv4 => ?_⟩
        rw [ct] at hv3
        obtain rfl := Tv.lf_of (l := .i b) hv4
        refine ⟨v3, ty, b, B, rfl, hv3, by omega, by omega, hB, ha.1, hb0, hq.2.1, fun v5 H3 s5 hv5 => ?_⟩
        refine ⟨_, rfl, _, rfl, _, rfl, _, _, least, false, rfl, hv'.same s5, f1, fun v6 hv6 => ?_⟩
        refine ⟨_, rfl, _, rfl, _, _, least, false, rfl, hv2'.same s5, f2, fun v7 hv7 => ?_⟩
        rw [cf] at hv6
        obtain rfl := Tv.lf_of (l := .i b) hv7
        refine ⟨v6, to, b, B, rfl, hv6, by omega, by omega, hB, ha.2, hb0, hq.2.2, fun v8 H4 s8 hv8 => ?_⟩
        have hom : ∀ {t : Tr}, allT (Lg false B) t → t.hom false := fun {t} => by
          induction t with
          | lf l => exact fun h => Lg.k l h
          | nd _ _ _ i1 i2 => exact fun h => ⟨i1 h.1, i2 h.2⟩
        refine ⟨_, rfl, _, rfl, _, rfl, least, v5, v8, _, _, false, rfl, hv5.same s8, hv8, addT_hom (hom ha.1), addT_hom (hom ha.2), by rw [addT_dep]; omega, by rw [addT_dep]; omega, fun v H5 s9 hv => ?_⟩
        refine q v H5 (fun b o z => s9 b o (s8 b o (s5 b o (s3 b o z)))) ?_
        rw [show mkNd least (addT b ty) (addT b to) = .nd least (addT b ty) (addT b to) from if_neg fun z => hq.1 (addT_inj z)] at hv
        exact hv
theorem ok_wAdd9 {f : Addr} {fd : FuncData} (F : Fun K "__add__" "Worth.__add__" sWAdd f fd) (W : WMk P w K mg base C) (dt : Df P w K mg base "tree_of" 2 ["value"] (spTreeOf C)) (dc : Df P w K mg base "combined" 24 ["sign", "one", "other"] (spComb9 21)) : FnOk P w K mg base CX0 25 f fd ["self", "other"] (spAdd9 C) := by
  refine F.ok scWAdd (fun vs H Q E h => ?_) (fun cdv A outer s H vs Q E hr h => ?_)
  · obtain ⟨a, t, b, B, rfl, _⟩ := h
    rfl
  · obtain ⟨a, t, b, B, rfl, ⟨dx, v1, h1, hv1⟩, hd, hB, ha, hb, hq, q⟩ := h
    refine ⟨_, (pss_one (ps_ret (pe_newW W (hr.mono (by omega)) (by rfl) (pe_df (E := E0) dc (hr.mono (by omega)) (by rfl) (pa_cons pe_str (pa_cons (pe_fld (pv 0) rfl) (pa_cons (pe_df (E := E0) dt (hr.mono (by omega)) (by rfl) (pa_cons (pv 1) pa_nil)) pa_nil))))))), ?_⟩
    refine ⟨_, rfl, a, C, dx, _, _, rfl, h1, W.cl, W.nt, rfl, _, rfl, .int b, .lf (.i b), rfl, .inr ⟨.i b, rfl, rfl⟩, fun v2 hv2 => ?_⟩
    obtain rfl := Tv.lf_of (l := .i b) hv2
    refine ⟨v1, t, b, B, rfl, hv1, by omega, by omega, hB, ha, hb, hq, fun v3 H3 s3 h3 => ?_⟩
    exact fun a H' s' na ⟨dx, h⟩ => q a H' (fun b o z => s' b o (s3 b o z)) (by
      cases hz : H a with
      | none => rfl
      | some o => rw [s3 _ _ hz] at na; cases na) ⟨dx, v3, h, h3.same s'⟩
end
end Law
set_option Elab.async false
set_option linter.all false
set_option maxRecDepth 100000
set_option maxHeartbeats 1000000
namespace Cor
open PySem PySem.Spec PyProof.Rows L2 GenW
def tGIf (tc : TT) (t u : TGn) : TGn := fun D ys σ H => tc σ H fun d H1 => if d = true then t D ys σ H1 else u D ys σ H1
theorem gs_if {X : Cx} {test : Expr} {a b : List Stmt} {pos : Pos} {tc : TT} {t u : TGn} (hc : PT X test tc) (ha : GSs X a t) (hb : GSs X b u) : GS X (.If test a b pos) (tGIf tc t u) := by
  refine ⟨fun A S ip R n ys s₀ c fs K J gd lv s σ H D g hn k hI ht => ?_⟩
  obtain ⟨acc, cc, r, I⟩ := hI
  rw [exec_If]
  refine seg_bind_wrap ?_
  rw [g.over]
  refine wpAny_standAt ?_
  refine seg_bind_wrap ?_
  rw [g.over]
  refine wpAny_mono (hc.run _ s σ H _ I ht) (fun d s' hd => ?_) fun x s' hx => k.exc n s₀ x s' hx
  obtain ⟨H1, I1, q⟩ := hd
  cases d with
  | true => exact ha.run A S ip R n ys s₀ c fs K J gd lv s' σ H1 D g hn k ⟨acc, cc, r, I1⟩ q
  | false => exact hb.run A S ip R n ys s₀ c fs K J gd lv s' σ H1 D g hn k ⟨acc, cc, r, I1⟩ q
end Cor
set_option Elab.async false
set_option linter.all false
set_option maxRecDepth 100000
set_option maxHeartbeats 1000000
namespace Cor
open PySem PySem.Spec PyProof.Rows L2
section
variable {prog : Program} {w : World} {K : Type} [DecidableEq K] {knd : KeyKind prog w K} {A : Around} {E : Value → Shared → Prop} {s : Shared}
theorem wpAny_dictPut_pairs {d : Addr} {kvs : List (K × Value)} {k : K} {key v : Value} {Q : Unit → Shared → Prop} (hkey : knd.is k key = true) (hm : s.heap.DictOf knd d kvs)
    (hQ : ∀ h', h'.DictOf knd d (stored kvs k v) → Heap.SameBut d s.heap h' → Q () { s with heap := h' })
    (hsz : kvs.length ≤ sizeLine := by size_fits) :
    wpAny (model prog w) A (dictPut d (knd.hash k) key v) Q E s := by
  obtain ⟨o, es, ep, ho, hc, hd, hk, hp, hn⟩ := hm
  have hes : es.size ≤ sizeLine := by have e1 := hp.length; have e2 : es.toList.length = es.size := by simp
                                      omega
  unfold dictPut
  refine wpAny_bind (wpAny_dictFind_of hkey ho hd hk ?_)
  have hidx : (es.findIdx? fun e => knd.is k e.key) = kvs.findIdx? fun kv => decide (kv.1 = k) := by
    rw [← hp.findIdx k]; obtain ⟨l⟩ := es; simp
  cases hi : es.findIdx? fun e => knd.is k e.key with
  | some i =>
    refine wpAny_updateDict ho hd ((hQ _ ⟨_, _, ep, Heap.get?_update_self _ ho (Obj.isFreed_of_dict (Obj.data_mapDict hd _)),
      hc.mapDict _, Obj.data_mapDict hd _, hk.modify _ _, ?_, ?_⟩ (Heap.SameBut.update ..)))
    · rw [stored, if_pos (any_of_findIdx_some (hidx ▸ hi))]
      have hl : (es.toList.findIdx? fun e => knd.is k e.key) = some i := by rw [← hi]; obtain ⟨l⟩ := es; simp
      have := hp.modify hn hl v
      obtain ⟨l⟩ := es
      simpa using this
    · rw [stored, if_pos (any_of_findIdx_some (hidx ▸ hi)), keys_map_store]; exact hn
  | none =>
    have hnot : k ∉ kvs.map (·.1) := not_mem_of_findIdx_none (hidx ▸ hi)
    have hany : ¬ (kvs.any fun kv => decide (kv.1 = k)) = true := by
      rw [List.any_eq_true]; rintro ⟨kv, hkv, he⟩
      exact hnot (List.mem_map.mpr ⟨kv, hkv, of_decide_eq_true he⟩)
    refine wpAny_updateDictKeys (hz := hes) ho hd (hQ _ ⟨_, _, ep + 1, Heap.get?_update_self _ ho (Obj.isFreed_of_dict (Obj.data_mapDictKeys hd _)),
      hc.mapDictKeys _, Obj.data_mapDictKeys hd _, hk.push hkey _, ?_, ?_⟩ (Heap.SameBut.update ..))
    · rw [stored, if_neg hany]
      have := hp.append hkey (knd.hash k) v
      obtain ⟨l⟩ := es
      simpa using this
    · rw [stored, if_neg hany, List.map_append, List.nodup_append]
      refine ⟨hn, by simp, ?_⟩
      intro a ha b hb
      simp only [List.map_cons, List.map_nil, List.mem_singleton] at hb
      subst hb
      exact fun e => hnot (e ▸ ha)
theorem wpAny_mergeMap {d o : Addr} {kvs more : List (K × Value)} {Q : Unit → Shared → Prop} (hdo : d ≠ o) (hoS : (o == sysModules) = false)
    (hd : s.heap.DictOf knd d kvs) (ho : s.heap.DictOf knd o more)
    (hQ : ∀ h', h'.DictOf knd d (merged kvs more) → h'.DictOf knd o more → Heap.SameBut d s.heap h' → Q () { s with heap := h' })
    (hsz : kvs.length + more.length ≤ sizeLine := by size_fits) :
    wpAny (model prog w) A (mergeMapping d (.ref o) false) Q E s := by
  obtain ⟨od, esd, epd, hod, hcd, hdd, hkd, hpd, hnd⟩ := id hd
  obtain ⟨oo, eso, epo, hoo, hco, hdo', hko, hpo, hno⟩ := id ho
  have hT : s.TypeIs (.ref o) "dict" := ⟨oo, hoo, hco.1⟩
  have hlen : more.length = eso.size := by rw [← hpo.length]; simp
  unfold mergeMapping
  refine wpAny_bind (wpAny_isInstance hT isSubtype_dict_dict ?_)
  rw [if_pos rfl]
  refine wpAny_bind (wpAny_specialOf hT F.slot_dict_iter.lookup ?_)
  refine wpAny_bind (wpAny_pure ?_)
  simp only [beq_self_eq_true]
  rw [if_neg (by rw [hoS]; exact Bool.false_ne_true)]
  refine wpAny_bind (wpAny_dictEntries hod hdd ?_)
  have loop : wpAny (model prog w) A (do
      let l ← dictEntries o
      let size : Nat := l.size
      let epoch ← dictEpoch o
      forIn (List.range size) PUnit.unit fun i (_ : PUnit) => (do
          let l' ← dictEntries o
          match l'[i]? with
            | some e => do
              holding [e.key, e.val] (dictPut d e.hash e.key e.val)
              let ep' ← dictEpoch o
              if (ep' != epoch) = true then do
                  (unsupported "dict.changed-during-merge" : Sem PUnit)
                  pure (ForInStep.yield PUnit.unit)
                else pure (ForInStep.yield PUnit.unit)
            | _ => do
              (unsupported "dict.changed-during-merge" : Sem PUnit)
              pure (ForInStep.yield PUnit.unit) : Sem (ForInStep PUnit))
      pure ()) Q E s := by
    refine wpAny_bind (wpAny_dictEntries hoo hdo' ?_)
    refine wpAny_bind (wpAny_dictEpoch hoo hdo' ?_)
    refine wpAny_bind ?_
    rw [List.range_eq_range']
    refine wpAny_forIn_list _
      (fun rest _ s' => ∃ h' i, s' = { s with heap := h' } ∧ rest = List.range' i (eso.size - i) ∧ i ≤ eso.size ∧ h'.DictOf knd d (merged kvs (more.take i)) ∧ h'.get? o = some oo ∧ Heap.SameBut d s.heap h')
      _ ?_ ?_ _ _ ⟨s.heap, 0, rfl, by simp, Nat.zero_le _, by simpa [merged] using hd, hoo, Heap.SameBut.refl _ _⟩
    · rintro x rest b s' ⟨h', i, rfl, hr, hi, hd', hoo', hs'⟩
      have hlt : i < eso.size := by
        rcases Nat.lt_or_ge i eso.size with h | h
        · exact h
        · rw [Nat.sub_eq_zero_of_le h] at hr; simp at hr
      obtain ⟨rfl, hrest⟩ : x = i ∧ rest = List.range' (i + 1) (eso.size - (i + 1)) := by
        have e : eso.size - i = (eso.size - (i + 1)) + 1 := by omega
        rw [e, List.range'_succ] at hr
        injection hr with h1 h2
        exact ⟨h1, h2⟩
      refine wpAny_bind (wpAny_dictEntries hoo' hdo' ?_)
      rw [Array.getElem?_eq_getElem hlt]
      obtain ⟨kv, hkv⟩ : ∃ kv, more[x]? = some kv := ⟨more[x]'(by rw [hlen]; exact hlt), List.getElem?_eq_getElem _⟩
      obtain ⟨k, v⟩ := kv
      obtain ⟨hkey, hval⟩ := hpo.get? (e := eso[x]) (by simp [hlt]) hkv
      obtain ⟨k', hkey', hhash⟩ := hko eso[x] (Array.getElem_mem hlt)
      obtain rfl : k' = k := knd.inj _ _ _ hkey' hkey
      show wpAny _ _ (holding [eso[x].key, eso[x].val] (dictPut d eso[x].hash eso[x].key eso[x].val) >>= _) _ _ _
      rw [hhash, hval]
      have hmx : (merged kvs (more.take x)).length ≤ sizeLine := by
        have e1 := merged_length_le kvs (more.take x)
        have e2 : (more.take x).length ≤ more.length := by rw [List.length_take]; omega
        omega
      refine wpAny_bind (wpAny_holding (wpAny_dictPut_pairs (hsz := hmx) hkey hd' fun h'' hd'' hs'' => ?_))
      have hoo'' : h''.get? o = some oo := (hs''.2 o (Ne.symm hdo)).trans hoo'
      refine wpAny_bind (wpAny_dictEpoch hoo'' hdo' ?_)
      rw [if_neg (by simp)]
      exact wpAny_pure ⟨h'', x + 1, rfl, hrest, hlt, by rw [merged_take_succ kvs more x (k', v) hkv]; exact hd'', hoo'', hs'.trans hs''⟩
    · rintro b s' ⟨h', i, rfl, hr, hi, hd', hoo', hs'⟩
      have hin : i = eso.size := by
        rcases Nat.lt_or_ge i eso.size with h | h
        · have e : eso.size - i = (eso.size - (i + 1)) + 1 := by omega
          rw [e, List.range'_succ] at hr; exact nomatch hr
        · exact Nat.le_antisymm hi h
      refine wpAny_pure (hQ h' ?_ ⟨oo, eso, epo, hoo', hco, hdo', hko, hpo, hno⟩ hs')
      rw [hin, ← hlen, List.take_length] at hd'; exact hd'
  split
  · refine wpAny_bind (wpAny_dictEntries hoo hdo' ?_)
    refine wpAny_bind (wpAny_of_eq (a := PUnit.unit) ?_ ?_)
    · rw [← Array.forIn_toList]
      refine forIn_yield_id _ fun e he c => ?_
      obtain ⟨k, hkey, _⟩ := hko e (Array.mem_toList_iff.mp he)
      have hb := knd.byValue k _ hkey
      cases hk : e.key <;> first | rfl | (rw [hk] at hb; cases hb)
    · exact loop
  · exact loop
end
end Cor
set_option Elab.async false
set_option linter.all false
set_option maxRecDepth 100000
set_option maxHeartbeats 1000000
namespace Cor
open PySem PySem.Spec PyProof.Rows L2
def tDStar (tw tk tv : TE) : TE := fun σ H Q => ∀ p, H p = none → tw σ (upd H p (.dK [])) fun x H1 => ∃ d kvs, x = .ref d ∧ H1 d = some (.dK kvs) ∧ d ≠ p ∧ H1 p = some (.dK []) ∧ kvs.length < 100 ∧
  ∀ r, (upd H1 p (.dK (mergeK [] kvs))) r = none → r ≠ p → tPairs [(tk, tv)] σ (upd (upd H1 p (.dK (mergeK [] kvs))) r (.dK [])) fun ps H3 => ∃ ky v, ps = [(kV ky, v)] ∧ H3 p = some (.dK (mergeK [] kvs)) ∧ H3 r = some (.dK []) ∧
    Q (.ref p) (upd (upd H3 r (.dK [(ky, v)])) p (.dK (putK (mergeK [] kvs) ky v)))
section
variable {X : Cx}
theorem mergeMap_ok {pins : List (Addr × Obj)} {σ : L2.St} {H : Hp} {s : Shared} {A : Around} {E : Value → Shared → Prop} {Q : Unit → Shared → Prop} {p d : Addr} {kvs more : List (Key × V)} (I : Inv X pins σ H s) (hp : H p = some (.dK kvs)) (hd : H d = some (.dK more)) (ne : d ≠ p) (hl : kvs.length + more.length ≤ 1000)
    (h : ∀ s', Inv X pins σ (upd H p (.dK (mergeK kvs more))) s' → Q () s') : wpAny (model X.prog X.w) A (mergeMapping p (.ref d) false) Q E s := by
  obtain ⟨z1, hs1, vs1, r1, d1⟩ := dk_of I.hok hp
  obtain ⟨z2, hs2, vs2, r2, d2⟩ := dk_of I.hok hd
  have e1 := r1.length
  have e2 := r2.length
  have hz : (mergeK kvs more).length ≤ sizeLine := by
    have := length_mergeK more kvs
    rw [sizeLine_eq]; omega
  refine wpAny_mergeMap (knd := mixKind X.prog X.w) ne.symm hs2 d1 d2 (fun h' dd _ hs => h _ ?_) (by rw [sizeLine_eq]; omega)
  have he : ∃ q, h'.get? p = some q := let ⟨q, _, _, hq, _⟩ := dd; ⟨q, hq⟩
  exact d_write (t' := s.toks) I (by rw [hp]; exact True.intro) hs he (dk_new hz hs1 (KV.merge r2 r1) dd)
theorem pe_dstar {pos : Pos} {w k v : Expr} {tw tk tv : TE} (hw : PE X w tw) (hk : PE X k tk) (hv : PE X v tv) : PE X (.Dict [none, some k] [w, v] pos) (tDStar tw tk tv) := by
  refine ⟨fun pins s σ H Q I q => ?_⟩
  have hn := I.hok.fresh (Nat.le_refl s.heap.objs.size)
  rw [arm_eval_Dict]
  refine wpAny_bind (wpAny_standAt ?_)
  show wpAny _ _ (dictDisplay [(none, do let x ← eval w X.env; standAt pos; pure x), (some (eval k X.env), do let x ← eval v X.env; standAt pos; pure x)]) _ _ s
  unfold dictDisplay
  simp only [List.forIn_cons, List.forIn_nil]
  refine wpAny_bind (wpAny_bind (wpAny_bind ?_))
  show wpAny _ _ (pure none) _ _ _
  refine wpAny_pure ?_
  refine wpAny_bind (wpAny_alloc ?_)
  have I1 := I.laid (a := s.heap.objs.size) (o := .dK []) (h' := s.heap.push { cls := .type "dict", data := .dict #[] }) (t' := s.toks) (fun _ _ q => Heap.get?_push_of_some _ q) (Nat.le_refl _) (dk_empty s.heap I.big)
  refine wpAny_bind (wpAny_holding (wpAny_bind (thn (hw.run pins _ σ _ _ I1 (q _ hn)) fun u s1 ⟨x, H1, I2, r1, d, kvs, ex, e1, ne, ep, hl, q⟩ => wpAny_bind (wpAny_standAt (wpAny_pure ?_)))))
  subst ex
  obtain rfl : u = Value.ref d := r1
  refine wpAny_bind (wpAny_onRaise (wpAny_tryCatch (wpAny_onRaise (wpAny_holding (mergeMap_ok I2 ep e1 ne (by simp; omega) fun s2 I3 => ?_)))))
  refine wpAny_pure ?_
  refine wpAny_bind ?_
  show wpAny _ _ (pure _) _ _ _
  refine wpAny_pure (wpAny_pure ?_)
  refine wpAny_bind ?_
  have hr := I3.hok.fresh (Nat.le_refl s2.heap.objs.size)
  have I4 := I3.laid (a := s2.heap.objs.size) (o := .dK []) (h' := s2.heap.push { cls := .type "dict", data := .dict #[] }) (t' := s2.toks) (fun _ _ q => Heap.get?_push_of_some _ q) (Nat.le_refl _) (dk_empty s2.heap I3.big)
  have spn : s2.heap.objs.size ≠ s.heap.objs.size := fun z => by
    have : upd H1 s.heap.objs.size (.dK (mergeK [] kvs)) s2.heap.objs.size = none := hr
    rw [z, upd_same] at this
    cases this
  show wpAny _ _ (holding [Value.ref s.heap.objs.size] (subDict (pairTrees [some k] [v] X.env pos)) >>= fun sub => _) _ _ _
  refine wpAny_bind (wpAny_holding (wpAny_subDict (knd := mixKind X.prog X.w) (by show 1 ≤ 15; decide) ?_))
  refine thn ((pps_cons (pos := pos) hk hv pps_nil).run pins _ σ _ _ I4 (q _ hr spn)) fun ws s3 ⟨ps, H3, I5, rel, ky, v, eps, e3, e4, q⟩ => ?_
  · subst eps
    have rel : VV ([(ky, v)].map fun q => (kV q.1, q.2)) ws := rel
    obtain ⟨rs, c, rk⟩ := carries_of (P := X.prog) (w := X.w) rel
    obtain ⟨z, hd, vs0, r0, dd⟩ := dk_of I5.hok e4
    cases r0
    refine ⟨rs, c, dd, fun h' dd' hs => ?_⟩
    have I6 := d_write (t' := s3.toks + ws.length) I5 (by rw [e4]; exact True.intro) hs (let ⟨q, _, _, hq, _⟩ := dd'; ⟨q, hq⟩) (dk_new (by show 1 ≤ sizeLine; decide) hd (KV.merge rk .nil) dd')
    refine wpAny_bind (wpAny_onRaise (wpAny_holding (mergeMap_ok I6 (by rw [upd_ne spn.symm]; exact e3) upd_same spn ?_ fun s5 I7 => ?_)))
    · have := length_mergeK kvs []
      rw [List.length_nil] at this
      show (mergeK [] kvs).length + 1 ≤ 1000
      omega
    · refine wpAny_pure ?_
      exact wpAny_pure ⟨.ref s.heap.objs.size, _, I7, rfl, q⟩
end
end Cor
namespace Cor
open PySem PySem.Spec PyProof.Rows L2
theorem star_wl {σ : L2.St} {H : Hp} {Q : VK} {i j : Nat} {b : Bool} {d : Addr} {ws : List (Int × Bool)} {n : Int} (hi : σ[i]? = some (some (.ref d))) (hj : σ[j]? = some (some (.int n))) (hw : Wl H d ws) (fr : n ∉ ws.map (·.1)) (l : ws.length + 1 ≤ 60)
    (q : ∀ p H', Same H H' → H p = none → Wl H' p (ws ++ [(n, b)]) → Q (.ref p) H') : tDStar (tVar i) (tVar j) (tC (.bl b)) σ H Q := by
  intro p np
  have e0 : mergeK [] (ws.map kvW) = ws.map kvW := merge_fresh ws [] hw.2.1
  refine ⟨_, hi, d, ws.map kvW, rfl, (upd_ne (ne_of_none hw.1 np)).trans hw.1, ne_of_none hw.1 np, upd_same, ?_, fun r nr ner => ?_⟩
  · rw [List.length_map]; omega
  rw [e0] at nr ⊢
  refine ⟨_, hj, Sum.inl n, .bl b, rfl, by rw [upd_ne ner.symm, upd_same], upd_same, ?_⟩
  rw [put_fresh (kv := (n, b)) fr]
  have nr' : H r = none := by rw [upd_ne ner, upd_ne ner] at nr; exact nr
  refine q p _ (fun b o z => ?_) np ⟨upd_same, ?_, by rw [List.length_append]; exact l⟩
  · have h1 := ne_of_none z np
    have h2 := ne_of_none z nr'
    rw [upd_ne h1, upd_ne h2, upd_ne h2, upd_ne h1, upd_ne h1]
    exact z
  · rw [List.map_append]
    exact List.nodup_append.mpr ⟨hw.2.1, by simp, fun x hx y hy e => by
      rw [List.mem_singleton.mp (show y ∈ [n] from hy)] at e
      rw [e] at hx
      exact fr hx⟩
end Cor
namespace Cor
open PySem PySem.Spec PyProof.Rows L2
theorem star_pair {σ : L2.St} {H : Hp} {Q : List V → Hp → Prop} {i j k : Nat} {b : Bool} {d : Addr} {ws : List (Int × Bool)} {n : Int} {x : V} (hw : Wl H d ws) (hi : σ[i]? = some (some (.ref d))) (hj : σ[j]? = some (some (.int n))) (hk : σ[k]? = some (some x)) (fr : n ∉ ws.map (·.1)) (l : ws.length + 1 ≤ 60)
    (q : ∀ r p H', Same H H' → H' r = some (.tup [.ref p, x]) → Wl H' p (ws ++ [(n, b)]) → Q [.ref r] H') : tCons (tTup (tCons (tDStar (tVar i) (tVar j) (tC (.bl b))) (tCons (tVar k) tNil))) tNil σ H Q := by
  unfold tCons tTup
  refine star_wl hi hj hw fr l fun p H1 s1 _ w1 => ?_
  refine ⟨x, hk, (by show 2 ≤ sizeLine; decide), fun r nr => ?_⟩
  have s2 := same_upd (o := .tup [.ref p, x]) nr
  exact q r p _ (fun b o z => s2 b o (s1 b o z)) upd_same (w1.same s2)
end Cor
set_option Elab.async false
set_option linter.all false
set_option maxRecDepth 100000
set_option maxHeartbeats 1000000
namespace Law
open PySem PySem.Spec PyProof.Rows L2 Cor LamX NdefX GenW
abbrev sWCases : Stmt := inClass (topS 31) 9
theorem scWCases : GScope ["self", "rest", "words", "tree", "number", "yes", "no"] ["self"] (defScope sWCases) := ⟨rfl, rfl, rfl, by decide +kernel, rfl, by decide +kernel, by decide +kernel⟩
def spCasesG (C : Addr) : SpG := fun vs H Q _ => ∃ a t, vs = [.ref a] ∧ Wo C H a t ∧ (∃ m, t.up m) ∧ t.dep ≤ 60 ∧ t.sz ≤ 1000000 ∧ ∀ H' ys, Same H H' → YdI H' ys (casesOf [] t) → Q ys H'
def CaI (a r : Addr) (t : Tr) (H : Hp) (m : Nat) (ys : List V) (σ : L2.St) (H' : Hp) : Prop := ∃ vs its done s2 s3 s4 s5 s6, σ = [some (.ref a), some (.ref r), s2, s3, s4, s5, s6] ∧ H' r = some (.lst vs) ∧ StkI H' vs its ∧ YdI H' ys done ∧ done ++ pend its = casesOf [] t ∧ (∀ it ∈ its, ItOk it) ∧ Same H H' ∧ m = itsz its ∧ m ≤ t.sz
section
variable {P : Program} {w : World} {K : PySem.W.Frag} {mg : Str → Option Value} {base : Heap} {C : Addr}
theorem ok_wCasesG {f : Addr} {fd : FuncData} (F : Fun K "cases" "Worth.cases" sWCases f fd) (W : WMk P w K mg base C) (D : WD P w K mg base C) : GFn P w K mg base 24 f fd ["self"] (spCasesG C) := by
  obtain ⟨oc, od, kV, doc, pm, an, cdv, ct, osl, rfl, lk, hcd⟩ := F.ex
  refine gfn_of lk hcd scWCases (fun vs H Q E h => ?_) (fun A outer s H vs Q E pn hr h => ?_)
  · obtain ⟨a, l, rfl, _⟩ := h
    rfl
  · obtain ⟨a, t, rfl, ha, ⟨m0, hup⟩, hdep, hsz, q⟩ := h
    refine ⟨_, (gss_cons (gs_ps (ps_set (i := 1) scWCases.nd rfl (Or.inl rfl) (pe_lst (pa_cons (pe_tup (pa_cons pe_dnewK (pa_cons (pe_fld (pv 0) rfl) pa_nil))) pa_nil))))
      (gss_cons (gs_while owns_gcx (pt_truth (pv 1) (by intro _; rfl)) (gss_cons (gs_ps (ps_asg (pe_bm0 PySem.F.plainAttrs_list PySem.F.slot_list_pop PySem.F.type_list_pop mt_pop (pv 1)) (pg_tup rfl (pgs_cons (pg_name (i := 2) scWCases.nd rfl (Or.inl rfl)) (pgs_cons (pg_name (i := 3) scWCases.nd rfl (Or.inl rfl)) pgs_nil)))))
      (gss_cons (gs_if (pt_val (pe_df (E := E0) D.leaf (hr.mono (by omega)) (by rfl) (pa_cons (pv 3) pa_nil))) (gss_cons (gs_yield (pe_tup (pa_cons (pv 2) (pa_cons (pv 3) pa_nil))))
      gss_nil) (gss_cons (gs_ps (ps_asg (pv 3) (pg_tup rfl (pgs_cons (pg_name (i := 4) scWCases.nd rfl (Or.inl rfl)) (pgs_cons (pg_name (i := 5) scWCases.nd rfl (Or.inl rfl)) (pgs_cons (pg_name (i := 6) scWCases.nd rfl (Or.inl rfl)) pgs_nil))))))
      (gss_cons (gs_ps (ps_expr (pe_bm PySem.F.plainAttrs_list PySem.F.slot_list_append PySem.F.type_list_append mt_append (pv 1) (pa_cons (pe_tup (pa_cons (pe_dstar (pv 2) (pv 4) pe_bl) (pa_cons (pv 6) pa_nil))) pa_nil))))
      (gss_cons (gs_ps (ps_expr (pe_bm PySem.F.plainAttrs_list PySem.F.slot_list_append PySem.F.type_list_append mt_append (pv 1) (pa_cons (pe_tup (pa_cons (pe_dstar (pv 2) (pv 4) pe_bl) (pa_cons (pv 5) pa_nil))) pa_nil))))
      gss_nil))))
      gss_nil)))
      gss_nil)), ?_⟩
    obtain ⟨dx, v1, h1, hv1⟩ := ha
    intro d nd
    have s1 := same_upd (o := .dK []) nd
    refine ⟨_, rfl, a, C, dx, _, _, rfl, s1 _ _ h1, W.cl, W.nt, rfl, (by show 2 ≤ sizeLine; decide), fun p np => ?_⟩
    have s2 := same_upd (o := .tup [.ref d, v1]) np
    refine ⟨(by show 1 ≤ sizeLine; decide), fun r nr => ?_⟩
    have s3 := same_upd (o := .lst [.ref p]) nr
    have nr0 : H r = none := by
      cases hz : H r with
      | none => rfl
      | some o => rw [s2 _ _ (s1 _ _ hz)] at nr; cases nr
    refine ⟨CaI a r t H, ?_, ?_⟩
    · refine ⟨t.sz, [.ref p], [([], t)], [], none, none, none, none, none, rfl, upd_same, ?_, .nil, ?_, ?_, fun b o z => s3 _ _ (s2 _ _ (s1 b o z)), ?_, Nat.le_refl _⟩
      · exact .cons ⟨p, d, v1, rfl, s3 _ _ upd_same, ⟨s3 _ _ (s2 _ _ upd_same), List.nodup_nil, Nat.zero_le _⟩, hv1.same fun b o z => s3 _ _ (s2 _ _ (s1 b o z))⟩ .nil
      · show [] ++ pend ([] ++ [([], t)]) = _
        rw [pend_snoc]
        show casesOf [] t ++ [] = _
        rw [List.append_nil]
      · intro it hit
        rw [List.mem_singleton.mp hit]
        exact ⟨List.nodup_nil, ⟨m0, fun k hk => (nomatch hk), hup⟩, by show 0 + t.dep ≤ 60; omega⟩
      · show t.sz = t.sz + 0
        rfl
    · rintro m ys σ H' ⟨vs, its, done, s2, s3, s4, s5, s6, rfl, er, st, yd, ed, ok, sH, em, hm⟩
      rcases List.eq_nil_or_concat its with e | ⟨its', it, e⟩
      · subst e
        cases st
        refine ⟨_, rfl, false, .inl ⟨_, SqL.of er, rfl⟩, ?_⟩
        rw [show pend [] = [] from rfl, List.append_nil] at ed
        rw [ed] at yd
        exact q _ _ sH yd
      · rw [List.concat_eq_append] at e
        subst e
        obtain ⟨vs', v, rfl, st', pp, pd, px, rfl, ep, ew, et⟩ := paired_last st
        refine ⟨_, rfl, true, .inl ⟨_, SqL.of er, by simp⟩, fun ys' σ' H' => ∃ m', m' < m ∧ CaI a r t H m' ys' σ' H', fun ys' σ' H' h => h, ?_⟩
        refine ⟨_, rfl, .inl ⟨rfl, _, SqL.of er⟩, r, _, V.ref pp, rfl, rfl, er, by simp, ?_⟩
        have er2 : (upd H' r (.lst (vs' ++ [V.ref pp]).dropLast)) r = some (.lst vs') := by rw [upd_same, List.dropLast_concat]
        have kp : Kp H' (upd H' r (.lst (vs' ++ [V.ref pp]).dropLast)) := fun b o n e => by
          by_cases hb : b = r
          · rw [hb, er] at e
            cases e
            exact absurd rfl (n _)
          · rw [upd_ne hb]; exact e
        have sH2 : Same H (upd H' r (.lst (vs' ++ [V.ref pp]).dropLast)) := fun b o z => (upd_ne (ne_of_none z nr0)).trans (sH b o z)
        generalize (upd H' r (.lst (vs' ++ [V.ref pp]).dropLast)) = H2 at er2 kp sH2
        have ep2 := kp _ _ (fun _ z => by cases z) ep
        refine ⟨pp, _, rfl, SqT.of ep2, rfl, ?_⟩
        obtain ⟨ws, t'⟩ := it
        have ew2 : Wl H2 pd ws := ew.kp kp
        have et2 : Tv H2 px t' := et.kp kp
        have st2 := StkI.kp kp st'
        have yd2 := YdI.kp kp yd
        rw [pend_snoc] at ed
        have oki := ok _ (List.mem_append_right _ (List.mem_singleton.mpr rfl))
        have okr : ∀ it ∈ its', ItOk it := fun it hit => ok it (List.mem_append_left _ hit)
        have hm' : itsz its' + t'.sz = m := by rw [em, itsz_append]; rfl
        refine ⟨_, _, rfl, _, _, rfl, rfl, _, rfl, _, t', rfl, et2, _, rfl, ?_⟩
        cases t' with
        | lf l =>
          obtain rfl := et2.lf_of
          refine iteT ?_
          refine ⟨?_, _, rfl, _, rfl, (by show 2 ≤ sizeLine; decide), fun y ny => ?_⟩
          · have e1 := yd.length
            have e2 := congrArg List.length ed
            rw [List.length_append] at e2
            have e3 := casesOf_len [] t
            rw [sizeLine_eq]
            omega
          have s4 := same_upd (o := .tup [.ref pd, Lf.v l]) ny
          refine ⟨itsz its', (by have := Tr.sz_pos (.lf l); omega), vs', its', done ++ [(ws, l)], _, _, _, _, _, rfl, s4 _ _ er2, StkI.kp s4.kp st2, Paired.snoc (YdI.kp s4.kp yd2) ⟨y, pd, rfl, upd_same, ew2.kp s4.kp⟩, ?_, okr, fun b o z => s4 _ _ (sH2 b o z), rfl, by omega⟩
          rw [List.append_assoc]
          exact ed
        | nd n ty to =>
          obtain ⟨b, y, o, rfl, hb, hty, hto⟩ := et2.nd_of
          refine iteF ?_
          obtain ⟨ok1, fr⟩ := oki.sub true
          obtain ⟨ok2, _⟩ := oki.sub false
          have lw : ws.length + 1 ≤ 60 := by
            have := oki.ln
            have e : (Tr.nd n ty to).dep = max ty.dep to.dep + 1 := rfl
            have this : ws.length + (Tr.nd n ty to).dep ≤ 60 := this
            omega
          have hl : vs'.length + 2 ≤ 1000002 := by
            have e1 := st2.length
            have e2 := itsz_len its'
            omega
          refine ⟨_, rfl, b, _, rfl, SqT.of hb, rfl, ?_⟩
          refine ⟨_, _, rfl, _, _, rfl, _, _, rfl, rfl, ?_⟩
          refine ⟨_, rfl, .inl ⟨rfl, _, SqL.of er2⟩, ?_⟩
          refine star_pair (b := false) ew2 (by rfl) (by rfl) (by rfl) fr lw fun q1 p1 H3 s3 e1 w1 => ?_
          refine ⟨r, _, _, rfl, rfl, s3 _ _ er2, (by rw [sizeLine_eq]; omega), ?_⟩
          have kp3 : Kp H3 (upd H3 r (.lst (vs' ++ [V.ref q1]))) := fun b o n e => by
            by_cases hb : b = r
            · rw [hb, s3 _ _ er2] at e
              cases e
              exact absurd rfl (n _)
            · rw [upd_ne hb]; exact e
          have sH3 : Same H (upd H3 r (.lst (vs' ++ [V.ref q1]))) := fun b o z => (upd_ne (ne_of_none z nr0)).trans (s3 _ _ (sH2 b o z))
          have er3 : (upd H3 r (.lst (vs' ++ [V.ref q1]))) r = some (.lst (vs' ++ [V.ref q1])) := upd_same
          generalize (upd H3 r (.lst (vs' ++ [V.ref q1]))) = H4 at kp3 sH3 er3
          have k24 : Kp H2 H4 := s3.kp.trans kp3
          refine ⟨_, rfl, .inl ⟨rfl, _, SqL.of er3⟩, ?_⟩
          refine star_pair (b := true) (ew2.kp k24) (by rfl) (by rfl) (by rfl) fr lw fun q2 p2 H5 s5' e2 w2 => ?_
          refine ⟨r, _, _, rfl, rfl, s5' _ _ er3, (by rw [sizeLine_eq, List.length_append]; show vs'.length + 1 < _; omega), ?_⟩
          have kp5 : Kp H5 (upd H5 r (.lst ((vs' ++ [V.ref q1]) ++ [V.ref q2]))) := fun b o n e => by
            by_cases hb : b = r
            · rw [hb, s5' _ _ er3] at e
              cases e
              exact absurd rfl (n _)
            · rw [upd_ne hb]; exact e
          have sH5 : Same H (upd H5 r (.lst ((vs' ++ [V.ref q1]) ++ [V.ref q2]))) := fun b o z => (upd_ne (ne_of_none z nr0)).trans (s5' _ _ (sH3 b o z))
          have er5 : (upd H5 r (.lst ((vs' ++ [V.ref q1]) ++ [V.ref q2]))) r = some (.lst ((vs' ++ [V.ref q1]) ++ [V.ref q2])) := upd_same
          generalize (upd H5 r (.lst ((vs' ++ [V.ref q1]) ++ [V.ref q2]))) = H6 at kp5 sH5 er5
          have k46 : Kp H4 H6 := s5'.kp.trans kp5
          have k26 := k24.trans k46
          have sz : (Tr.nd n ty to).sz = ty.sz + to.sz + 1 := rfl
          refine ⟨itsz (its' ++ [(ws ++ [(n, false)], to)] ++ [(ws ++ [(n, true)], ty)]), ?_, _, its' ++ [(ws ++ [(n, false)], to)] ++ [(ws ++ [(n, true)], ty)], done, _, _, _, _, _, rfl, er5, ?_, YdI.kp k26 yd2, ?_, ?_, sH5, rfl, ?_⟩
          · rw [itsz_append, itsz_append]
            show itsz its' + (to.sz + 0) + (ty.sz + 0) < m
            omega
          · refine (Paired.snoc (Paired.snoc (StkI.kp k26 st2) ⟨q1, p1, o, rfl, k46 _ _ (fun _ z => by cases z) (kp3 _ _ (fun _ z => by cases z) e1), (w1.kp kp3).kp k46, hto.kp k26⟩) ⟨q2, p2, y, rfl, kp5 _ _ (fun _ z => by cases z) e2, w2.kp kp5, hty.kp k26⟩)
          · rw [pend_snoc, pend_snoc]
            show done ++ (casesOf (ws ++ [(n, true)]) ty ++ (casesOf (ws ++ [(n, false)]) to ++ pend its')) = _
            rw [← ed]
            show _ = done ++ ((casesOf (ws ++ [(n, true)]) ty ++ casesOf (ws ++ [(n, false)]) to) ++ pend its')
            rw [List.append_assoc]
          · intro it hit
            rcases List.mem_append.mp hit with hit | hit
            · rcases List.mem_append.mp hit with hit | hit
              · exact okr it hit
              · rw [List.mem_singleton.mp hit]; exact ok2
            · rw [List.mem_singleton.mp hit]; exact ok1
          · rw [itsz_append, itsz_append]
            show itsz its' + (to.sz + 0) + (ty.sz + 0) ≤ t.sz
            omega
end
end Law
set_option Elab.async false
set_option linter.all false
set_option maxRecDepth 100000
set_option maxHeartbeats 1000000
namespace Cor
open PySem PySem.Spec PyProof.Rows L2
end Cor
set_option Elab.async false
set_option linter.all false
set_option maxRecDepth 100000
set_option maxHeartbeats 1000000
namespace Law
open PySem PySem.Spec PyProof.Rows L2 Cor
abbrev sLCases : Stmt := topS 53
theorem scLCases : FnScope ["_law_tree_here", "_law_words", "_law_held", "_law_failed"] ["_law_tree_here", "_law_words"] (defScope sLCases) := ⟨rfl, rfl, rfl, by decide +kernel, rfl, by decide +kernel, by decide +kernel⟩
abbrev sLBuilt : Stmt := topS 54
theorem scLBuilt : FnScope ["_law_tree_here"] ["_law_tree_here"] (defScope sLBuilt) := ⟨rfl, rfl, rfl, by decide +kernel, rfl, by decide +kernel, by decide +kernel⟩
/-- the ways through a form: a new list -/
def spLCases (m : Nat) : Sp := fun vs H Q _ => ∃ (v : V) (d : Addr) (t : Tr) (ws : List (Int × Bool)) (j : Int), vs = [v, .ref d] ∧ Tv H v t ∧ Wl H d ws ∧ t.dep < m ∧ ws.length + t.dep ≤ 60 ∧ (∀ k ∈ ws.map (·.1), k ≤ j) ∧ t.up j ∧ t.sz ≤ 10000 ∧
  ∀ p H' ys, Same H H' → H' p = some (.lst ys) → YdI H' ys (casesOf ws t) → Q (.ref p) H'
def spLBuilt (C : Addr) (m : Nat) : Sp := fun vs H Q _ => ∃ (v : V) (t : Tr) (k : Bool) (j : Int), vs = [v] ∧ Tv H v t ∧ t.dep < m ∧ m ≤ 20 ∧ 0 ≤ j ∧ t.up j ∧ nqT t ∧ t.hom k ∧ NewW C H t Q
theorem YdI.same {H H' : Hp} {vs : List V} {cs : List (List (Int × Bool) × Lf)} (s : Same H H') (h : YdI H vs cs) : YdI H' vs cs := h.kp s.kp
theorem paired_app {α β : Type} {F : α → β → Prop} : ∀ {as as' : List α} {bs bs' : List β}, Paired F as bs → Paired F as' bs' → Paired F (as ++ as') (bs ++ bs')
  | _, _, _, _, .nil, h => h
  | _, _, _, _, .cons a t, h => .cons a (paired_app t h)
section
variable {P : Program} {w : World} {K : PySem.W.Frag} {mg : Str → Option Value} {base : Heap} {C : Addr}
theorem ok_lCases {f : Addr} {fd : FuncData} (F : Fun K "_law_cases" "_law_cases" sLCases f fd) (T : GloF mg) (hm : mg "_law_cases" = some (.ref f)) :
    ∀ m, FnOk P w K mg base CX0 (1 + m) f fd ["_law_tree_here", "_law_words"] (spLCases m) := by
  intro m
  induction m with
  | zero =>
    refine F.ok scLCases (k := 0) (fun vs H Q E h => ?_) (fun cdv A outer s H vs Q E hr h => ?_)
    · obtain ⟨v, d, t, ws, j, rfl, _⟩ := h
      rfl
    · obtain ⟨v, d, t, ws, j, rfl, _, _, hl, _⟩ := h
      omega
  | succ m IH =>
    have ih : Df P w K mg base "_law_cases" (1 + m) ["_law_tree_here", "_law_words"] (spLCases m) := ⟨f, fd, IH, hm, F.kp, F.binds fun _ _ _ _ _ _ us hl => match us, hl with | [_, _], _ => rfl⟩
    refine F.ok scLCases (k := 1 + m) (fun vs H Q E h => ?_) (fun cdv A outer s H vs Q E hr h => ?_)
    · obtain ⟨v, d, t, ws, j, rfl, _⟩ := h
      rfl
    · obtain ⟨v, d, t, ws, j, rfl, hv, hd, hl, l60, hj, hu, hz, q⟩ := h
      refine ⟨_, (pss_cons (ps_if (pt_not (pt_val (pe_callB (id := "isinstance") (show CallR _ (.builtin "isinstance") (rIsi K) from call_isi) (by rfl) T.isinstance (by decide +kernel) (pa_cons (pv 0) (pa_cons (pe_bltn (v := .ty "tuple") (by rfl) T.tuple (by decide +kernel) rfl) pa_nil))))) (pss_one (ps_ret (pe_lst (pa_cons (pe_tup (pa_cons (pv 1) (pa_cons (pv 0) pa_nil))) pa_nil)))) pss_nil)
      (pss_cons (ps_set (i := 2) scLCases.nd rfl (Or.inl rfl) (pe_callTy (call_dictP rfl) (by rfl) T.dict (by decide +kernel) (pa_cons (pe_op op_cat (LiI.pe_listItems rfl (pv 1) (by rfl) T.list (by decide +kernel)) (pe_lst (pa_cons (pe_tup (pa_cons (pe_ix ix_tup (pv 0) pe_int (fun _ _ => rfl)) (pa_cons pe_bl pa_nil))) pa_nil))) pa_nil)))
      (pss_cons (ps_set (i := 3) scLCases.nd rfl (Or.inl rfl) (pe_callTy (call_dictP rfl) (by rfl) T.dict (by decide +kernel) (pa_cons (pe_op op_cat (LiI.pe_listItems rfl (pv 1) (by rfl) T.list (by decide +kernel)) (pe_lst (pa_cons (pe_tup (pa_cons (pe_ix ix_tup (pv 0) pe_int (fun _ _ => rfl)) (pa_cons pe_bl pa_nil))) pa_nil))) pa_nil)))
      (pss_one (ps_ret (pe_op op_cat (pe_df (E := E0) ih hr (by rfl) (pa_cons (pe_ix ix_tup (pv 0) pe_int (fun _ _ => rfl)) (pa_cons (pv 2) pa_nil))) (pe_df (E := E0) ih hr (by rfl) (pa_cons (pe_ix ix_tup (pv 0) pe_int (fun _ _ => rfl)) (pa_cons (pv 3) pa_nil))))))))), ?_⟩
      obtain ⟨ty, y1, y2⟩ := tv_tuple (K := K) hv
      refine ⟨_, rfl, _, _, _, _, _, rfl, .ty "tuple", y1, y2, _, rfl, ?_⟩
      cases t with
      | lf l =>
        obtain rfl := hv.lf_of
        refine ⟨_, rfl, _, rfl, (by show 2 ≤ sizeLine; decide), fun p np => ?_⟩
        have s1 := same_upd (o := .tup [.ref d, Lf.v l]) np
        have e1 : (upd H p (.tup [.ref d, Lf.v l])) p = some (.tup [.ref d, Lf.v l]) := upd_same
        refine ⟨(by show 1 ≤ sizeLine; decide), fun p2 np2 => ?_⟩
        have s2 := same_upd (o := .lst [.ref p]) np2
        exact q p2 _ [.ref p] (fun b o z => s2 b o (s1 b o z)) upd_same (.cons ⟨p, d, rfl, s2 _ _ e1, (hd.same s1).same s2⟩ .nil)
      | nd n ty to =>
        obtain ⟨a, y, o, rfl, h1, h2, h3⟩ := hv.nd_of
        obtain ⟨u1, u2, u3⟩ := hu
        have hl : max ty.dep to.dep + 1 < m + 1 := hl
        have l60 : ws.length + (max ty.dep to.dep + 1) ≤ 60 := l60
        have hz : ty.sz + to.sz + 1 ≤ 10000 := hz
        have fn : n ∉ ws.map (·.1) := fun z => by have := hj n z; omega
        have nodup : ∀ bb : Bool, ((ws ++ [(n, bb)]).map (·.1)).Nodup := fun bb => by
          rw [List.map_append]
          exact List.nodup_append.mpr ⟨hd.2.1, by simp, fun x hx y hy e => by
            rw [List.mem_singleton.mp (show y ∈ [n] from hy)] at e
            rw [e] at hx
            exact fn hx⟩
        have mk : ∀ (bb : Bool) {H1 : Hp} {p : Addr}, H1 p = some (.dK (mergeK [] ((ws ++ [(n, bb)]).map kvW))) → Wl H1 p (ws ++ [(n, bb)]) := fun bb {H1 p} e => by
          rw [show (mergeK [] ((ws ++ [(n, bb)]).map kvW)) = (ws ++ [(n, bb)]).map kvW from merge_fresh (ws ++ [(n, bb)]) [] (nodup bb)] at e
          exact ⟨e, nodup bb, by rw [List.length_append]; show ws.length + 1 ≤ 60; omega⟩
        have hj' : ∀ bb : Bool, ∀ k ∈ (ws ++ [(n, bb)]).map (·.1), k ≤ n := fun bb k hk => by
          rw [List.map_append] at hk
          rcases List.mem_append.mp hk with z | z
          · have := hj k z; omega
          · rw [List.mem_singleton.mp (show k ∈ [n] from z)]; exact Int.le_refl _
        have hln : ∀ bb : Bool, (ws ++ [(n, bb)]).length = ws.length + 1 := fun bb => by rw [List.length_append]; rfl
        -- the dict of the words with n held
        refine ⟨_, rfl, d, _, rfl, hd.1, fun H1 p1 ts1 sm1 np1 nts1 pn1 ep1 pr1 => ?_⟩
        have pw1 := Prw.of pr1
        refine ⟨_, rfl, a, _, _, _, rfl, rfl, SqT.of (sm1 _ _ h1), rfl, (by show 2 ≤ sizeLine; decide), fun t2 nt2 => ?_⟩
        have s2 := same_upd (o := .tup [.int n, .bl true]) nt2
        refine ⟨(by show 1 ≤ sizeLine; decide), fun l2' nl2 => ?_⟩
        have s3 := same_upd (o := .lst [.ref t2]) nl2
        have el1 := pw1.len
        refine ⟨p1, l2', _, _, rfl, rfl, s3 _ _ (s2 _ _ ep1), upd_same, ?_, fun p3 np3 => ?_⟩
        · rw [List.length_map, el1]; exact Nat.le_trans (by show ws.length + 1 ≤ 60; omega) (by decide)
        have s4 := same_upd (o := .lst (ts1.map V.ref ++ [.ref t2])) np3
        have s14 : Same H1 (upd (upd (upd H1 t2 (.tup [.int n, .bl true])) l2' (.lst [.ref t2])) p3 (.lst (ts1.map V.ref ++ [.ref t2]))) := fun b o z => s4 b o (s3 b o (s2 b o z))
        have t2at := s4 _ _ (s3 _ _ (show (upd H1 t2 (.tup [.int n, .bl true])) t2 = _ from upd_same))
        refine ⟨p3, ts1 ++ [t2], (ws ++ [(n, true)]).map kvW, rfl, SqL.of (by rw [List.map_append]; exact upd_same), Prw.kv (Prw.snoc (kv := (n, true)) t2at (pw1.same s14)), fun d1 nd1 => ?_⟩
        have s5 := same_upd (o := .dK (mergeK [] ((ws ++ [(n, true)]).map kvW))) nd1
        have wd1 := mk true (show (upd (upd (upd (upd H1 t2 (.tup [.int n, .bl true])) l2' (.lst [.ref t2])) p3 (.lst (ts1.map V.ref ++ [.ref t2]))) d1 (.dK (mergeK [] ((ws ++ [(n, true)]).map kvW)))) d1 = _ from upd_same)
        have sA : Same H (upd (upd (upd (upd H1 t2 (.tup [.int n, .bl true])) l2' (.lst [.ref t2])) p3 (.lst (ts1.map V.ref ++ [.ref t2]))) d1 (.dK (mergeK [] ((ws ++ [(n, true)]).map kvW)))) := fun b o z => s5 b o (s14 b o (sm1 b o z))
        generalize (upd (upd (upd (upd H1 t2 (.tup [.int n, .bl true])) l2' (.lst [.ref t2])) p3 (.lst (ts1.map V.ref ++ [.ref t2]))) d1 (.dK (mergeK [] ((ws ++ [(n, true)]).map kvW)))) = HA at wd1 sA
        clear s5 s14 s4 s3 s2 pw1 pr1 t2at
        -- .. with n failed
        refine ⟨_, rfl, d, _, rfl, (hd.same sA).1, fun H6 p6 ts6 sm6 np6 nts6 pn6 ep6 pr6 => ?_⟩
        have pw6 := Prw.of pr6
        refine ⟨_, rfl, a, _, _, _, rfl, rfl, SqT.of (sm6 _ _ (sA _ _ h1)), rfl, (by show 2 ≤ sizeLine; decide), fun t7 nt7 => ?_⟩
        have s7 := same_upd (o := .tup [.int n, .bl false]) nt7
        refine ⟨(by show 1 ≤ sizeLine; decide), fun l8 nl8 => ?_⟩
        have s8 := same_upd (o := .lst [.ref t7]) nl8
        have el6 := pw6.len
        refine ⟨p6, l8, _, _, rfl, rfl, s8 _ _ (s7 _ _ ep6), upd_same, ?_, fun p9 np9 => ?_⟩
        · rw [List.length_map, el6]; exact Nat.le_trans (by show ws.length + 1 ≤ 60; omega) (by decide)
        have s9 := same_upd (o := .lst (ts6.map V.ref ++ [.ref t7])) np9
        have s69 : Same H6 (upd (upd (upd H6 t7 (.tup [.int n, .bl false])) l8 (.lst [.ref t7])) p9 (.lst (ts6.map V.ref ++ [.ref t7]))) := fun b o z => s9 b o (s8 b o (s7 b o z))
        have t7at := s9 _ _ (s8 _ _ (show (upd H6 t7 (.tup [.int n, .bl false])) t7 = _ from upd_same))
        refine ⟨p9, ts6 ++ [t7], (ws ++ [(n, false)]).map kvW, rfl, SqL.of (by rw [List.map_append]; exact upd_same), Prw.kv (Prw.snoc (kv := (n, false)) t7at (pw6.same s69)), fun d2 nd2 => ?_⟩
        have s10 := same_upd (o := .dK (mergeK [] ((ws ++ [(n, false)]).map kvW))) nd2
        have wd2 := mk false (show (upd (upd (upd (upd H6 t7 (.tup [.int n, .bl false])) l8 (.lst [.ref t7])) p9 (.lst (ts6.map V.ref ++ [.ref t7]))) d2 (.dK (mergeK [] ((ws ++ [(n, false)]).map kvW)))) d2 = _ from upd_same)
        have sAB : Same HA (upd (upd (upd (upd H6 t7 (.tup [.int n, .bl false])) l8 (.lst [.ref t7])) p9 (.lst (ts6.map V.ref ++ [.ref t7]))) d2 (.dK (mergeK [] ((ws ++ [(n, false)]).map kvW)))) := fun b o z => s10 b o (s69 b o (sm6 b o z))
        generalize (upd (upd (upd (upd H6 t7 (.tup [.int n, .bl false])) l8 (.lst [.ref t7])) p9 (.lst (ts6.map V.ref ++ [.ref t7]))) d2 (.dK (mergeK [] ((ws ++ [(n, false)]).map kvW)))) = HB at wd2 sAB
        clear s10 s69 s9 s8 s7 pw6 pr6 t7at
        have sB : Same H HB := fun b o z => sAB b o (sA b o z)
        refine ⟨_, rfl, a, _, _, _, rfl, rfl, SqT.of (sB _ _ h1), rfl, _, rfl, y, d1, ty, ws ++ [(n, true)], n, rfl, h2.same sB, wd1.same sAB, by omega, by rw [hln]; omega, hj' true, u2, by omega, fun pa HC ya sC ea yd1 => ?_⟩
        have sBC : Same H HC := fun b o z => sC b o (sB b o z)
        refine ⟨_, rfl, a, _, _, _, rfl, rfl, SqT.of (sBC _ _ h1), rfl, _, rfl, o, d2, to, ws ++ [(n, false)], n, rfl, h3.same sBC, wd2.same sC, by omega, by rw [hln]; omega, hj' false, u3, by omega, fun pb HD yb sD eb yd2 => ?_⟩
        have la := yd1.length
        have lb := yd2.length
        have ca := casesOf_len (ws ++ [(n, true)]) ty
        have cb := casesOf_len (ws ++ [(n, false)]) to
        refine ⟨pa, pb, _, _, rfl, rfl, sD _ _ ea, eb, by rw [sizeLine_eq]; omega, fun pc nc => ?_⟩
        have sE := same_upd (o := .lst (ya ++ yb)) nc
        exact q pc _ (ya ++ yb) (fun b o z => sE b o (sD b o (sBC b o z))) upd_same (paired_app (YdI.same sE (YdI.same sD yd1)) (YdI.same sE yd2))
theorem ok_lBuilt {f : Addr} {fd : FuncData} (F : Fun K "_law_built" "_law_built" sLBuilt f fd) (T : GloW mg) (so : SmD P w K mg base C "of" 3 (spOf C)) (se : SmD P w K mg base C "either" 24 (spEither9 C)) (hm : mg "_law_built" = some (.ref f)) :
    ∀ m, FnOk P w K mg base CX0 (25 + m) f fd ["_law_tree_here"] (spLBuilt C m) := by
  intro m
  induction m with
  | zero =>
    refine F.ok scLBuilt (k := 24) (fun vs H Q E h => ?_) (fun cdv A outer s H vs Q E hr h => ?_)
    · obtain ⟨v, t, k, j, rfl, _⟩ := h
      rfl
    · obtain ⟨v, t, k, j, rfl, _, hl, _⟩ := h
      omega
  | succ m IH =>
    have ih : Df P w K mg base "_law_built" (25 + m) ["_law_tree_here"] (spLBuilt C m) := ⟨f, fd, IH, hm, F.kp, F.binds fun _ _ _ _ _ _ us hl => match us, hl with | [_], _ => rfl⟩
    refine F.ok scLBuilt (k := 25 + m) (fun vs H Q E h => ?_) (fun cdv A outer s H vs Q E hr h => ?_)
    · obtain ⟨v, t, k, j, rfl, _⟩ := h
      rfl
    · obtain ⟨v, t, k, j, rfl, hv, hl, h20, hj, hu, hq, hk, q⟩ := h
      refine ⟨_, (pss_cons (ps_if (pt_not (pt_val (pe_callB (id := "isinstance") (show CallR _ (.builtin "isinstance") (rIsi K) from call_isi) (by rfl) T.isinstance (by decide +kernel) (pa_cons (pv 0) (pa_cons (pe_bltn (v := .ty "tuple") (by rfl) T.tuple (by decide +kernel) rfl) pa_nil))))) (pss_one (ps_ret (pe_smD so (hr.mono (by omega)) (by rfl) (pa_cons (pv 0) pa_nil)))) pss_nil)
      (pss_one (ps_ret (pe_smD se (hr.mono (by omega)) (by rfl) (pa_cons (pe_ix ix_tup (pv 0) pe_int (fun _ _ => rfl)) (pa_cons (pe_df (E := E0) ih hr (by rfl) (pa_cons (pe_ix ix_tup (pv 0) pe_int (fun _ _ => rfl)) pa_nil)) (pa_cons (pe_df (E := E0) ih hr (by rfl) (pa_cons (pe_ix ix_tup (pv 0) pe_int (fun _ _ => rfl)) pa_nil)) pa_nil))))))), ?_⟩
      obtain ⟨ty, y1, y2⟩ := tv_tuple (K := K) hv
      refine ⟨_, rfl, _, _, _, _, _, rfl, .ty "tuple", y1, y2, _, rfl, ?_⟩
      cases t with
      | lf l =>
        obtain rfl := hv.lf_of
        exact ⟨_, rfl, _, .lf l, rfl, .inr ⟨l, rfl, rfl⟩, q⟩
      | nd n ty to =>
        obtain ⟨a, y, o, rfl, h1, h2, h3⟩ := hv.nd_of
        obtain ⟨u1, u2, u3⟩ := hu
        have hl : max ty.dep to.dep + 1 < m + 1 := hl
        refine ⟨_, rfl, a, _, _, _, rfl, rfl, SqT.of h1, rfl, _, rfl, a, _, _, _, rfl, rfl, SqT.of h1, rfl, y, ty, k, n, rfl, h2, by omega, by omega, by omega, u2, hq.2.1, hk.1, fun p1 H1 s1 n1 w1 => ?_⟩
        refine ⟨_, rfl, a, _, _, _, rfl, rfl, SqT.of (s1 _ _ h1), rfl, o, to, k, n, rfl, h3.same s1, by omega, by omega, by omega, u3, hq.2.2, hk.2, fun p2 H2 s2 n2 w2 => ?_⟩
        refine ⟨n, .ref p1, .ref p2, ty, to, k, rfl, by omega, .inl ⟨p1, rfl, w1.kp s2.kp⟩, .inl ⟨p2, rfl, w2⟩, u2, u3, hq.1, hk.1, hk.2, by omega, by omega, fun p3 H3 s3 n3 w3 => ?_⟩
        refine q p3 H3 (fun b ob z => s3 b ob (s2 b ob (s1 b ob z))) ?_ w3
        cases hz : H p3 with
        | none => rfl
        | some ob => rw [s2 _ _ (s1 _ _ hz)] at n3; cases n3
end
end Law
set_option Elab.async false
set_option linter.all false
set_option maxRecDepth 100000
set_option maxHeartbeats 1000000
namespace Cor
open PySem PySem.Spec PyProof.Rows L2
def keyD : L2.Key → PyData
  | .inl i => .int i
  | .inr x => .str x
mutual
/-- the data d stands at v, all of it made by the text that runs -/
inductive Dq (H : Hp) : V → PyData → Prop
  | non : Dq H .non .none
  | bl (b : Bool) : Dq H (.bl b) (.bool b)
  | int (i : Int) : Dq H (.int i) (.int i)
  | str (x : Str) : Dq H (.str x) (.str x)
  | lst {a : Addr} {xs : List V} {ds : List PyData} : H a = some (.lst xs) → DqAll H xs ds → Dq H (.ref a) (.list ds)
  | tup {a : Addr} {xs : List V} {ds : List PyData} : H a = some (.tup xs) → DqAll H xs ds → Dq H (.ref a) (.tuple ds)
  | dic {a : Addr} {kvs : List (L2.Key × V)} {ps : List (PyData × PyData)} : H a = some (.dK kvs) → DqKv H kvs ps → Dq H (.ref a) (.dict ps)
inductive DqAll (H : Hp) : List V → List PyData → Prop
  | nil : DqAll H [] []
  | cons {v : V} {vs : List V} {d : PyData} {ds : List PyData} : Dq H v d → DqAll H vs ds → DqAll H (v :: vs) (d :: ds)
inductive DqKv (H : Hp) : List (L2.Key × V) → List (PyData × PyData) → Prop
  | nil : DqKv H [] []
  | cons {k : L2.Key} {v : V} {r : List (L2.Key × V)} {d : PyData} {ps : List (PyData × PyData)} : Dq H v d → DqKv H r ps → DqKv H ((k, v) :: r) ((keyD k, d) :: ps)
end
section
variable {X : Cx} {pins : List (Addr × Obj)} {σ : L2.St} {H : Hp} {s : Shared}
/-- what repr of a value asks for: it reads as d, and its parts show -/
def ShQ (X : Cx) (s : Shared) (u : Value) (d : PyData) : Prop :=
  ∃ as bs, Reads s.heap u d as ∧ ReadAtMost s.heap d.depth bs ∧ ReprK X.prog X.w bs s.heap d.depth u d.shown
def ShAll (X : Cx) (s : Shared) (us : List Value) (ds : List PyData) : Prop :=
  ∃ as bs, ReadsAll s.heap us ds as ∧ ReadAtMost s.heap (PyData.depthAll ds) bs ∧ ReprAllK X.prog X.w bs s.heap (PyData.depthAll ds) us (PyData.shownAll ds)
theorem ShAll.nil : ShAll X s [] [] := ⟨[], [], ReadsAll.nil, (fun _ h => nomatch h), by simp only [PyData.shownAll]; exact .nil⟩
theorem ShAll.cons {u : Value} {us : List Value} {d : PyData} {ds : List PyData} (h1 : ShQ X s u d) (h2 : ShAll X s us ds) : ShAll X s (u :: us) (d :: ds) := by
  obtain ⟨as, b1, r, hb1, k1⟩ := h1
  obtain ⟨cs, b2, rs, hb2, k2⟩ := h2
  refine ⟨_, b1 ++ b2, ReadsAll.cons r rs, ?_, ?_⟩
  · simp only [PyData.depthAll]
    exact (hb1.mono (Nat.le_max_left _ _)).append (hb2.mono (Nat.le_max_right _ _))
  · simp only [PyData.depthAll, PyData.shownAll]
    exact .cons ((k1.more fun b hb => List.mem_append_left _ hb).level_le (Nat.le_max_left _ _)) (k2.more_le (fun b hb => List.mem_append_right _ hb) (Nat.le_max_right _ _))
theorem key_sh {k k' : L2.Key} {v : Value} (e : k = k') (p : keyIs k' v = true) (hs : (keyD k).showable = true) (hz : (keyD k).shown.length ≤ sizeLine) : ShQ X s v (keyD k) := by
  subst e
  rcases keyIs_shape p with ⟨i, t, hk, hv⟩ | ⟨x, t, hk, hv⟩
  · subst hv
    subst hk
    exact ⟨[], [], Reads.int i t, (fun _ h => nomatch h), .of_is (ReprIs.int t (by simpa [keyD, PyData.showable] using hs)) _ _ _⟩
  · subst hv
    subst hk
    exact ⟨[], [], Reads.str x t, (fun _ h => nomatch h), .of_is (ReprIs.str x t (by simpa only [keyD, PyData.shown] using hz)) _ _ _⟩
mutual
theorem Dq.sh (I : Inv X pins σ H s) : ∀ (d : PyData) (v : V) (u : Value), Dq H v d → RelV v u → d.showable = true → d.shown.length ≤ sizeLine → ShQ X s u d
  | .none, _, _, h, r, _, _ => by
    cases h
    cases r
    exact ⟨[], [], Reads.none, (fun _ h => nomatch h), .of_is ReprIs.none _ _ _⟩
  | .bool b, _, _, h, r, _, _ => by
    cases h
    cases r
    exact ⟨[], [], Reads.bool b, (fun _ h => nomatch h), .of_is (ReprIs.bool b) _ _ _⟩
  | .int i, _, _, h, r, hs, _ => by
    cases h
    obtain ⟨t, rfl⟩ := r
    exact ⟨[], [], Reads.int i t, (fun _ h => nomatch h), .of_is (ReprIs.int t (by simpa [PyData.showable] using hs)) _ _ _⟩
  | .str x, _, _, h, r, _, hz => by
    cases h
    obtain ⟨t, rfl⟩ := r
    exact ⟨[], [], Reads.str x t, (fun _ h => nomatch h), .of_is (ReprIs.str x t (by simpa only [PyData.shown] using hz)) _ _ _⟩
  | .list ds, _, _, h, r, hs, hz => by
    cases h with
    | @lst a _ _ hx ha =>
      cases r
      have hz' : (listText (PyData.shownAll ds)).length ≤ sizeLine := by simpa only [PyData.shown] using hz
      obtain ⟨its, rv, ⟨o, n, ho, hc, _, hd⟩, _⟩ := I.list (SqL.of hx)
      obtain ⟨as, bs, hr, hb, hk⟩ := Dq.shAll I ds _ its ha rv (by simpa [PyData.showable] using hs) (fun t ht => Nat.le_trans (listText_mem_le ht) hz')
      have r : Reads s.heap (.ref a) (.list ds) _ := Reads.list ho hc hd hr
      have hna : a ∉ bs := not_mem_of_deeper r (by simp only [PyData.depth]; omega) hb
      refine ⟨_, a :: bs, r, ReadAtMost.cons r (by simp only [PyData.depth]; omega) hb, ?_⟩
      simp only [PyData.depth, PyData.shown]
      cases its with
      | nil =>
        cases hr
        simp only [PyData.shownAll, listText_nil]
        exact ReprK.listEmpty ho hc hd
      | cons x l => exact ReprK.list ho hc hd hna (by simpa using hk.length_eq) (fun i y e => hk.item i y (by simpa using e))
  | .tuple ds, _, _, h, r, hs, hz => by
    cases h with
    | @tup a _ _ hx ha =>
      cases r
      have hz' : (tupleText (PyData.shownAll ds)).length ≤ sizeLine := by simpa only [PyData.shown] using hz
      obtain ⟨its, rv, ⟨o, ho, hc, n, hd⟩, _⟩ := I.tuple (SqT.of hx)
      obtain ⟨as, bs, hr, hb, hk⟩ := Dq.shAll I ds _ its ha rv (by simpa [PyData.showable] using hs) (fun t ht => Nat.le_trans (tupleText_mem_le ht) hz')
      have r : Reads s.heap (.ref a) (.tuple ds) _ := Reads.tuple ho hc hd hr
      have hna : a ∉ bs := not_mem_of_deeper r (by simp only [PyData.depth]; omega) hb
      refine ⟨_, a :: bs, r, ReadAtMost.cons r (by simp only [PyData.depth]; omega) hb, ?_⟩
      simp only [PyData.depth, PyData.shown]
      exact ReprK.tuple ho hc hd hna hk
  | .dict ps, _, _, h, r, hs, hz => by
    cases h with
    | @dic a _ _ hx ha =>
      cases r
      have hz' : (dictText (PyData.shownKv ps)).length ≤ sizeLine := by simpa only [PyData.shown] using hz
      obtain ⟨_, hsys, vs, kv, o, es, ep, ho, hc, hd, _, pr, _⟩ := dk_of I.hok hx
      obtain ⟨hs1, hs2⟩ := PyData.showableKv_split ps (by simpa [PyData.showable] using hs)
      obtain ⟨⟨as1, b1, r1, hb1, k1⟩, ⟨as2, b2, r2, hb2, k2⟩⟩ := Dq.shKv I ps _ _ es.toList ha kv pr hs1 hs2
        (fun t ht => let ⟨p, hp, hl⟩ := PyData.shownKv_key_le ps t ht; Nat.le_trans hl (Nat.le_trans (dictText_mem_le hp) hz'))
        (fun t ht => let ⟨p, hp, hl⟩ := PyData.shownKv_val_le ps t ht; Nat.le_trans hl (Nat.le_trans (dictText_mem_le hp) hz'))
      have r : Reads s.heap (.ref a) (.dict ps) _ := Reads.dict ho hc.1 hd r1 r2
      have hb : ReadAtMost s.heap (PyData.depthKv ps) (b1 ++ b2) := (hb1.mono (PyData.depthAll_keys_le ps)).append (hb2.mono (PyData.depthAll_vals_le ps))
      have hna : a ∉ b1 ++ b2 := not_mem_of_deeper r (by simp only [PyData.depth]; omega) hb
      refine ⟨_, a :: (b1 ++ b2), r, ReadAtMost.cons r (by simp only [PyData.depth]; omega) hb, ?_⟩
      simp only [PyData.depth, PyData.shown, PyData.shownKv_eq]
      exact ReprK.dict ho hc.1 hd hsys hna (ReprEntriesK.of_two es.toList _ _
        (k1.more_le (fun b hb => List.mem_append_left _ hb) (PyData.depthAll_keys_le ps)) (k2.more_le (fun b hb => List.mem_append_right _ hb) (PyData.depthAll_vals_le ps)))
theorem Dq.shAll (I : Inv X pins σ H s) : ∀ (ds : List PyData) (vs : List V) (us : List Value), DqAll H vs ds → Vals vs us → PyData.showableAll ds = true → (∀ t ∈ PyData.shownAll ds, t.length ≤ sizeLine) → ShAll X s us ds
  | [], _, _, h, r, _, _ => by
    cases h
    cases r
    exact ShAll.nil
  | d :: ds, _, _, h, r, hs, hz => by
    cases h with
    | cons h1 h2 =>
      cases r with
      | cons r1 r2 =>
        have hs' : d.showable = true ∧ PyData.showableAll ds = true := by simpa [PyData.showableAll] using hs
        exact ShAll.cons (Dq.sh I d _ _ h1 r1 hs'.1 (hz _ (by simp only [PyData.shownAll]; exact List.mem_cons_self ..)))
          (Dq.shAll I ds _ _ h2 r2 hs'.2 fun t ht => hz t (by simp only [PyData.shownAll]; exact List.mem_cons_of_mem _ ht))
theorem Dq.shKv (I : Inv X pins σ H s) : ∀ (ps : List (PyData × PyData)) (kvs : List (L2.Key × V)) (vs : List (L2.Key × Value)) (es : List DictEntry), DqKv H kvs ps → KV kvs vs → Pairs (mixKind X.prog X.w) es vs →
    PyData.showableAll (ps.map (·.1)) = true → PyData.showableAll (ps.map (·.2)) = true → (∀ t ∈ PyData.shownAll (ps.map (·.1)), t.length ≤ sizeLine) → (∀ t ∈ PyData.shownAll (ps.map (·.2)), t.length ≤ sizeLine) →
    ShAll X s (es.map (·.key)) (ps.map (·.1)) ∧ ShAll X s (es.map (·.val)) (ps.map (·.2))
  | [], _, _, _, h, kv, pr, _, _, _, _ => by
    cases h
    cases kv
    cases pr
    exact ⟨ShAll.nil, ShAll.nil⟩
  | (dk, d) :: ps, _, _, _, h, kv, pr, s1, s2, z1, z2 => by
    cases h with
    | cons h1 h2 =>
      cases kv with
      | cons r1 r2 =>
        cases pr with
        | cons p1 p2 p3 =>
          simp only [List.map_cons] at s1 s2 z1 z2 ⊢
          have t1 := Bool.and_eq_true_iff.mp (by simpa only [PyData.showableAll] using s1)
          have t2 := Bool.and_eq_true_iff.mp (by simpa only [PyData.showableAll] using s2)
          obtain ⟨q1, q2⟩ := Dq.shKv I ps _ _ _ h2 r2 p3 t1.2 t2.2
            (fun t ht => z1 t (by simp only [PyData.shownAll]; exact List.mem_cons_of_mem _ ht)) (fun t ht => z2 t (by simp only [PyData.shownAll]; exact List.mem_cons_of_mem _ ht))
          obtain ⟨e1, e2⟩ := r1
          exact ⟨ShAll.cons (key_sh e1 p1 t1.1 (z1 _ (by simp only [PyData.shownAll]; exact List.mem_cons_self ..))) q1,
            ShAll.cons (show ShQ X s (DictEntry.val _) d from by rw [p2]; exact Dq.sh I d _ _ h1 e2 t2.1 (z2 _ (by simp only [PyData.shownAll]; exact List.mem_cons_self ..))) q2⟩
end
/-- repr of a tracked list, tuple or dict -/
theorem Dq.call {A : Around} {E : Value → Shared → Prop} {Q : Value → Shared → Prop} {a : Addr} {d : PyData} (I : Inv X pins σ H s) (hq : Dq H (.ref a) d) (hs : d.showable = true) (hz : d.shown.length ≤ sizeLine) (hg : A.guards = some []) (hu : A.units + (d.depth + 1) < cLine)
    (hQ : ∀ h' u tk, (∀ b o, s.heap.get? b = some o → h'.get? b = some o) → Q (.str d.shown u) { s with heap := h', toks := tk }) : wpAny (model X.prog X.w) A (call (.builtin "repr") [.ref a]) Q E s := by
  cases hq with
  | @lst _ _ ds hx ha =>
    have hz' : (listText (PyData.shownAll ds)).length ≤ sizeLine := by simpa only [PyData.shown] using hz
    obtain ⟨its, rv, ⟨o, n, ho, hc, _, hd⟩, _⟩ := I.list (SqL.of hx)
    obtain ⟨as, bs, hr, hb, hk⟩ := Dq.shAll I ds _ its ha rv (by simpa [PyData.showable] using hs) (fun t ht => Nat.le_trans (listText_mem_le ht) hz')
    have r : Reads s.heap (.ref a) (.list ds) _ := Reads.list ho hc hd hr
    have hna : a ∉ bs := not_mem_of_deeper r (by simp only [PyData.depth]; omega) hb
    simp only [PyData.depth] at hu
    simp only [PyData.shown] at hQ
    refine call_repr_slot (by omega) ⟨o, ho, hc⟩ F.slot_list_repr.toG ?_
    cases its with
    | nil =>
      cases hr
      simp only [PyData.shownAll, listText_nil] at hQ
      exact call_list_repr_empty ⟨o, ho, hc⟩ ho hd ⟨_, _, rfl, hQ s.heap _ _ fun _ _ e => e⟩
    | cons x l =>
      exact call_list_reprK ho hc hd hna (by simpa using hk.length_eq) (fun i y e => hk.item i y (by simpa using e)) hg (fun b _ => Clear.nil b) (by show A.units + 1 + _ < cLine; omega) (fun _ _ z => z) (fun h' u tk k => ⟨_, _, rfl, hQ h' u tk k⟩) hz'
  | @tup _ _ ds hx ha =>
    have hz' : (tupleText (PyData.shownAll ds)).length ≤ sizeLine := by simpa only [PyData.shown] using hz
    obtain ⟨its, rv, ⟨o, ho, hc, n, hd⟩, _⟩ := I.tuple (SqT.of hx)
    obtain ⟨as, bs, hr, hb, hk⟩ := Dq.shAll I ds _ its ha rv (by simpa [PyData.showable] using hs) (fun t ht => Nat.le_trans (tupleText_mem_le ht) hz')
    have r : Reads s.heap (.ref a) (.tuple ds) _ := Reads.tuple ho hc hd hr
    have hna : a ∉ bs := not_mem_of_deeper r (by simp only [PyData.depth]; omega) hb
    simp only [PyData.depth] at hu
    simp only [PyData.shown] at hQ
    refine call_repr_slot (by omega) ⟨o, ho, hc⟩ F.slot_tuple_repr ?_
    exact call_tuple_reprK ho hc hd hna hk hg (fun b _ => Clear.nil b) (by show A.units + 1 + _ < cLine; omega) (fun _ _ z => z) (fun h' u tk k => ⟨_, _, rfl, hQ h' u tk k⟩) hz'
  | @dic _ _ ps hx ha =>
    have hz' : (dictText (PyData.shownKv ps)).length ≤ sizeLine := by simpa only [PyData.shown] using hz
    obtain ⟨_, hsys, vs, kv, o, es, ep, ho, hc, hd, _, pr, _⟩ := dk_of I.hok hx
    obtain ⟨hs1, hs2⟩ := PyData.showableKv_split ps (by simpa [PyData.showable] using hs)
    obtain ⟨⟨as1, b1, r1, hb1, k1⟩, ⟨as2, b2, r2, hb2, k2⟩⟩ := Dq.shKv I ps _ _ es.toList ha kv pr hs1 hs2
      (fun t ht => let ⟨p, hp, hl⟩ := PyData.shownKv_key_le ps t ht; Nat.le_trans hl (Nat.le_trans (dictText_mem_le hp) hz'))
      (fun t ht => let ⟨p, hp, hl⟩ := PyData.shownKv_val_le ps t ht; Nat.le_trans hl (Nat.le_trans (dictText_mem_le hp) hz'))
    have r : Reads s.heap (.ref a) (.dict ps) _ := Reads.dict ho hc.1 hd r1 r2
    have hb : ReadAtMost s.heap (PyData.depthKv ps) (b1 ++ b2) := (hb1.mono (PyData.depthAll_keys_le ps)).append (hb2.mono (PyData.depthAll_vals_le ps))
    have hna : a ∉ b1 ++ b2 := not_mem_of_deeper r (by simp only [PyData.depth]; omega) hb
    simp only [PyData.depth] at hu
    simp only [PyData.shown, PyData.shownKv_eq] at hQ
    refine call_repr_slot (by omega) ⟨o, ho, hc.1⟩ F.slot_dict_repr ?_
    exact call_dict_reprK ho hc.1 hd hsys hna (ReprEntriesK.of_two es.toList _ _
      (k1.more_le (fun b hb => List.mem_append_left _ hb) (PyData.depthAll_keys_le ps)) (k2.more_le (fun b hb => List.mem_append_right _ hb) (PyData.depthAll_vals_le ps))) hg (fun b _ => Clear.nil b) (by show A.units + 1 + _ < cLine; omega) (fun _ _ z => z) (fun h' u tk k => ⟨_, _, rfl, hQ h' u tk k⟩) (by rw [← PyData.shownKv_eq]; exact hz')
end
/-- repr(x), x a list, tuple or dict of data -/
def rReprQ : List V → Hp → VK → Prop := fun xs H Q => ∃ (a : Addr) (d : PyData), xs = [.ref a] ∧ Dq H (.ref a) d ∧ d.showable = true ∧ d.shown.length ≤ sizeLine ∧ d.depth ≤ 60 ∧ Q (.str d.shown) H
theorem call_reprQ {X : Cx} (gd : X.A.guards = some []) (hu : X.A.units + 64 < cLine) : CallR X (.builtin "repr") rReprQ := by
  intro pins s σ H xs us Q I r h
  obtain ⟨a, d, rfl, hd, hs, hl, hdep, q⟩ := h
  cases r with
  | @cons _ u _ _ rx rr =>
    cases rr
    obtain rfl : u = Value.ref a := rx
    exact Dq.call I hd hs hl gd (by omega) (fun h' u tk k => ⟨.str d.shown, H, I.kept (t' := tk) k, ⟨_, rfl⟩, q⟩)
end Cor
set_option Elab.async false
set_option linter.all false
set_option maxRecDepth 100000
set_option maxHeartbeats 1000000
namespace Law
open PySem PySem.Spec PyProof.Rows L2 Cor LamX NdefX GenW
section
variable {X : Cx} {C : Addr} {fe e : Expr} {tf te : TE} {pos : Pos} {sp : Sp} {k : Nat}
def tCallW (C : Addr) (sp : Sp) (tf te : TE) : TE := fun σ H Q => tf σ H fun x H1 => ∃ a, x = .ref a ∧ te σ H1 fun v H2 => IsW C H2 (.ref a) ∧ sp [.ref a, v] H2 Q E0
theorem pe_callW (D : ∃ g, StX.CallO X.K C g ∧ FnR X.prog X.w X.K X.mg X.base CX0 k g sp) (hr : Room k X.A) (hf : PE X fe tf) (he : PE X e te)
    (ht : eval (.Call fe [e] [] pos) X.env = (do callWith pos (← eval fe X.env) [] (backTo pos (starEach [e] X.env)) (backToKw pos (keywordEach [] X.env))) := by rfl)
    (hs : starEach [e] X.env = (false, eval e X.env) :: starEach [] X.env := by rfl) : PE X (.Call fe [e] [] pos) (tCallW C sp tf te) := by
  obtain ⟨g, c, F⟩ := D
  refine (StX.pe_callO (E := E0) hf.up c F hr pass0 (pa_cons he.up pa_nil hs) ht hs rfl).imp fun σ H Q q => ?_
  refine ⟨_, q, fun x H1 ⟨a, ex, z⟩ => ⟨a, ex, _, z, fun v H2 z2 => ?_⟩⟩
  obtain ⟨⟨a', dx, u, ea, e⟩, z⟩ := z2
  cases ea
  exact ⟨.inr ⟨dx, _, e⟩, z⟩
end
theorem box_upd {H : Hp} {p d : Addr} {o : HO} (h : Box H p) (n : d ≠ p) : Box (upd H d o) p := let ⟨b, s', c, e, x⟩ := h; ⟨b, s', c, (upd_ne (Ne.symm n)).trans e, x⟩
structure Shq (B D : Nat) (d : PyData) : Prop where
  s : d.showable = true
  l : d.shown.length ≤ B
  p : d.depth ≤ D
theorem Shq.mono {B D B' D' : Nat} {d : PyData} (h : Shq B D d) (hB : B ≤ B') (hD : D ≤ D') : Shq B' D' d := ⟨h.s, Nat.le_trans h.l hB, Nat.le_trans h.p hD⟩
theorem Shq.lf {l : Lf} (h : Sml (.lf l)) : Shq 1921 0 l.d := by
  obtain ⟨h1, h2, h3, h4⟩ := plain_show h
  exact ⟨h1, h4, Nat.le_of_eq h3⟩
theorem Shq.str {x : Str} {B : Nat} (c : Calm x) (h : x.length ≤ B) : Shq (B + 2) 0 (.str x) := by
  refine ⟨rfl, ?_, Nat.le_refl _⟩
  rw [show (PyData.str x).shown = reprText x from rfl, calm_repr c, Str.length_append, Str.length_append, show Str.length (Str.ofString "'") = 1 from by decide +kernel]
  omega
theorem all_show {B D : Nat} : ∀ ds : List PyData, (∀ d ∈ ds, Shq B D d) → PyData.showableAll ds = true ∧ ((PyData.shownAll ds).map fun t => t.length + 2).sum ≤ (B + 2) * ds.length ∧ PyData.depthAll ds ≤ D
  | [], _ => ⟨rfl, Nat.zero_le _, Nat.zero_le _⟩
  | d :: ds, h => by
    obtain ⟨h1, h3, h4⟩ := all_show ds fun x hx => h x (List.mem_cons_of_mem _ hx)
    obtain ⟨g1, g3, g4⟩ := h d List.mem_cons_self
    refine ⟨?_, ?_, ?_⟩
    · show (d.showable && PyData.showableAll ds) = true
      rw [g1, h1]; rfl
    · rw [PyData.shownAll_cons, List.map_cons, List.sum_cons, List.length_cons, Nat.mul_succ]
      omega
    · show max d.depth (PyData.depthAll ds) ≤ D
      omega
theorem all_nod : ∀ ds : List PyData, (∀ d ∈ ds, d.hasDict = false) → PyData.hasDictAll ds = false
  | [], _ => rfl
  | d :: ds, h => by
    show (d.hasDict || PyData.hasDictAll ds) = false
    rw [h d List.mem_cons_self, all_nod ds fun x hx => h x (List.mem_cons_of_mem _ hx)]; rfl
theorem Shq.tup {B D : Nat} {ds : List PyData} (h : ∀ d ∈ ds, Shq B D d) : Shq ((B + 2) * ds.length + 3) (D + 1) (.tuple ds) := by
  obtain ⟨h1, h3, h4⟩ := all_show ds h
  refine ⟨h1, ?_, ?_⟩
  · rw [PyData.shown_tuple, Str.length_append, Str.length_append]
    have j := join_len (PyData.shownAll ds)
    have e1 : (Str.ofString (if ds.length == 1 then ",)" else ")" : String)).length ≤ 2 := by split <;> decide +kernel
    have e2 : Str.length (Str.ofString "(") = 1 := by decide +kernel
    rw [e2]
    omega
  · show PyData.depthAll ds + 1 ≤ D + 1
    omega
theorem Shq.lst {B D : Nat} {ds : List PyData} (h : ∀ d ∈ ds, Shq B D d) : Shq ((B + 2) * ds.length + 3) (D + 1) (.list ds) := by
  obtain ⟨h1, h3, h4⟩ := all_show ds h
  refine ⟨h1, ?_, ?_⟩
  · rw [PyData.shown_list, Str.length_append, Str.length_append]
    have j := join_len (PyData.shownAll ds)
    have e1 : Str.length (Str.ofString "]") = 1 := by decide +kernel
    have e2 : Str.length (Str.ofString "[") = 1 := by decide +kernel
    rw [e1, e2]
    omega
  · show PyData.depthAll ds + 1 ≤ D + 1
    omega
structure Shw (B D : Nat) (d : PyData) : Prop extends Shq B D d where
  n : d.hasDict = false
theorem Shw.mono {B D B' D' : Nat} {d : PyData} (h : Shw B D d) (hB : B ≤ B') (hD : D ≤ D') : Shw B' D' d := ⟨h.toShq.mono hB hD, h.n⟩
theorem Shw.lf {l : Lf} (h : Sml (.lf l)) : Shw 1921 0 l.d := ⟨Shq.lf h, (plain_show h).2.1⟩
theorem Shw.str {x : Str} {B : Nat} (c : Calm x) (h : x.length ≤ B) : Shw (B + 2) 0 (.str x) := ⟨Shq.str c h, rfl⟩
theorem Shw.tup {B D : Nat} {ds : List PyData} (h : ∀ d ∈ ds, Shw B D d) : Shw ((B + 2) * ds.length + 3) (D + 1) (.tuple ds) := ⟨Shq.tup fun d hd => (h d hd).toShq, all_nod ds fun d hd => (h d hd).n⟩
theorem Shw.lst {B D : Nat} {ds : List PyData} (h : ∀ d ∈ ds, Shw B D d) : Shw ((B + 2) * ds.length + 3) (D + 1) (.list ds) := ⟨Shq.lst fun d hd => (h d hd).toShq, all_nod ds fun d hd => (h d hd).n⟩
/-- a value that is no worth, and what it shows -/
def Od (K : PySem.W.Frag) (H : Hp) (v : V) : Prop := NoW K H v ∧ ∃ d, Dp K H v d ∧ Shw 10000 2 d
theorem tyx_same {K : PySem.W.Frag} {H H' : Hp} {v : V} {t : Value} (s : Same H H') (h : TyX K H v t) : TyX K H' v t := by
  cases h with
  | base h =>
    refine .base ?_
    cases h with
    | non => exact .non
    | bl x => exact .bl x
    | int i => exact .int i
    | str x => exact .str x
    | flt x => exact .flt x
    | lst e => exact .lst (s _ _ e)
    | frz e => exact .frz (s _ _ e)
    | tup e => exact .tup (s _ _ e)
    | dK e => exact .dK (s _ _ e)
    | dT e => exact .dT (s _ _ e)
    | ins e a b c d f => exact .ins (s _ _ e) a b c d f
  | byt b => exact .byt b
  | set e => exact .set (s _ _ e)
  | kList e c => exact .kList e c
  | kTuple e c => exact .kTuple e c
  | kDict e c => exact .kDict e c
  | fTuple e => exact .fTuple (s _ _ e)
  | fDict e => exact .fDict (s _ _ e)
theorem NoW.same {K : PySem.W.Frag} {H H' : Hp} {v : V} (s : Same H H') (h : NoW K H v) : NoW K H' v := let ⟨ty, hm, ht⟩ := h; ⟨ty, hm, tyx_same s ht⟩
theorem Od.same {K : PySem.W.Frag} {H H' : Hp} {v : V} (s : Same H H') (h : Od K H v) : Od K H' v := let ⟨n, d, h1, h2⟩ := h; ⟨n.same s, d, Dp.same s h1, h2⟩
end Law
set_option Elab.async false
set_option linter.all false
set_option maxRecDepth 100000
set_option maxHeartbeats 1000000
namespace Law
open PySem PySem.Spec PyProof.Rows L2 Cor LamX NdefX
abbrev sMore8 : Stmt := topS 55
theorem scMore8 : FnScope ["_law_tree_here"] ["_law_tree_here"] (defScope sMore8) := ⟨rfl, rfl, rfl, by decide +kernel, rfl, by decide +kernel, by decide +kernel⟩
/-- each number greater by 1 -/
def moreT : Tr → Tr
  | .lf (.i n) => .lf (.i (n + 1))
  | .lf (.b b) => .lf (.b b)
  | .nd n y o => .nd n (moreT y) (moreT o)
def intT : Tr → Prop
  | .lf (.i _) => True
  | .lf (.b _) => False
  | .nd _ y o => intT y ∧ intT o
def spMore8 (m : Nat) : Sp := fun vs H Q _ => ∃ (v : V) (t : Tr), vs = [v] ∧ Tv H v t ∧ intT t ∧ t.dep < m ∧ ∀ v' H', Same H H' → Tv H' v' (moreT t) → Q v' H'
section
variable {P : Program} {w : World} {K : PySem.W.Frag} {mg : Str → Option Value} {base : Heap}
theorem ok_more8 {f : Addr} {fd : FuncData} (F : Fun K "_law_more" "_law_more" sMore8 f fd) (T : GloW mg) (hm : mg "_law_more" = some (.ref f)) :
    ∀ m, FnOk P w K mg base CX0 (1 + m) f fd ["_law_tree_here"] (spMore8 m) := by
  intro m
  induction m with
  | zero =>
    refine F.ok scMore8 (k := 0) (fun vs H Q E h => ?_) (fun cdv A outer s H vs Q E hr h => ?_)
    · obtain ⟨v, t, rfl, _⟩ := h
      rfl
    · obtain ⟨v, t, rfl, _, _, hl, _⟩ := h
      omega
  | succ m IH =>
    have ih : Df P w K mg base "_law_more" (1 + m) ["_law_tree_here"] (spMore8 m) := ⟨f, fd, IH, hm, F.kp, F.binds fun _ _ _ _ _ _ us hl => match us, hl with | [_], _ => rfl⟩
    refine F.ok scMore8 (k := 1 + m) (fun vs H Q E h => ?_) (fun cdv A outer s H vs Q E hr h => ?_)
    · obtain ⟨v, t, rfl, _⟩ := h
      rfl
    · obtain ⟨v, t, rfl, hv, hi, hl, q⟩ := h
      refine ⟨_, (pss_one (ps_ret (pe_ifExp (pt_val (pe_callB (id := "isinstance") (show CallR _ (.builtin "isinstance") (rIsi K) from call_isi) (by rfl) T.isinstance (by decide +kernel) (pa_cons (pv 0) (pa_cons (pe_bltn (v := .ty "tuple") (by rfl) T.tuple (by decide +kernel) rfl) pa_nil)))) (pe_tup (pa_cons (pe_ix ix_tup (pv 0) pe_int (fun _ _ => rfl)) (pa_cons (pe_df (E := E0) ih hr (by rfl) (pa_cons (pe_ix ix_tup (pv 0) pe_int (fun _ _ => rfl)) pa_nil)) (pa_cons (pe_df (E := E0) ih hr (by rfl) (pa_cons (pe_ix ix_tup (pv 0) pe_int (fun _ _ => rfl)) pa_nil)) pa_nil)))) (pe_op op_add (pv 0) pe_int)))), ?_⟩
      obtain ⟨ty, h1, h2⟩ := tv_tuple (K := K) hv
      refine ⟨_, rfl, _, _, _, _, _, rfl, .ty "tuple", h1, h2, ?_⟩
      cases t with
      | lf l =>
        obtain rfl := hv.lf_of
        cases l with
        | b b => exact hi.elim
        | i n => exact ⟨_, rfl, _, rfl, _, _, rfl, rfl, q _ _ (fun _ _ z => z) (.lf (.i (n + 1)))⟩
      | nd n ty to =>
        obtain ⟨a, y, o, rfl, e1, e2, e3⟩ := hv.nd_of
        have hl : max ty.dep to.dep + 1 < m + 1 := hl
        refine ⟨_, rfl, _, rfl, a, _, _, _, rfl, rfl, SqT.of e1, rfl, _, rfl, a, _, _, _, rfl, rfl, SqT.of e1, rfl, _, ty, rfl, e2, hi.1, by omega, fun v1 H1 s1 g1 => ?_⟩
        refine ⟨_, rfl, a, _, _, _, rfl, rfl, SqT.of (s1 _ _ e1), rfl, _, to, rfl, e3.same s1, hi.2, by omega, fun v2 H2 s2 g2 => ?_⟩
        refine ⟨(by show 3 ≤ sizeLine; decide), fun p np => ?_⟩
        have s3 := same_upd (o := .tup [.int n, v1, v2]) np
        exact q _ _ (fun b ob e => s3 _ _ (s2 _ _ (s1 _ _ e))) (.nd upd_same ((g1.same s2).same s3) (g2.same s3))
end
end Law
set_option Elab.async false
set_option linter.all false
set_option maxRecDepth 100000
set_option maxHeartbeats 1000000
namespace Law
open PySem PySem.Spec PyProof.Rows L2 Cor LamX NdefX GenW
theorem addT_more : ∀ t : Tr, addT 1 t = moreT t
  | .lf (.i _) => rfl
  | .lf (.b _) => rfl
  | .nd n y o => by
    show Tr.nd n (addT 1 y) (addT 1 o) = .nd n (moreT y) (moreT o)
    rw [addT_more y, addT_more o]
/-- the value if all hold, or none -/
def sideT (b : Bool) : Tr → Lf
  | .lf l => l
  | .nd _ y o => if b = true then sideT b y else sideT b o
theorem ev_side {wf : Int → Option Bool} {b : Bool} {r : Rho} : ∀ {t : Tr}, (∀ n ∈ t.nums, wf n = some b) → t.ev (over wf r) = sideT b t
  | .lf _, _ => rfl
  | .nd n y o, h => by
    have e1 := ev_side (wf := wf) (b := b) (r := r) (t := y) fun m hm => h m (List.mem_cons_of_mem _ (List.mem_append_left _ hm))
    have e2 := ev_side (wf := wf) (b := b) (r := r) (t := o) fun m hm => h m (List.mem_cons_of_mem _ (List.mem_append_right _ hm))
    show (if over wf r n = true then _ else _) = (if b = true then _ else _)
    rw [e1, e2, show over wf r n = b from by unfold over; rw [h n List.mem_cons_self]; rfl]
theorem side_all {g : Lf → Prop} {b : Bool} : ∀ {t : Tr}, allT g t → g (sideT b t)
  | .lf _, h => h
  | .nd n y o, h => by
    show g (if b = true then _ else _)
    cases b
    · exact side_all h.2
    · exact side_all h.1
theorem sz_nums : ∀ t : Tr, t.sz = 2 * t.nums.length + 1
  | .lf _ => rfl
  | .nd n y o => by
    have h1 := sz_nums y
    have h2 := sz_nums o
    show y.sz + o.sz + 1 = 2 * (n :: (y.nums ++ o.nums)).length + 1
    rw [List.length_cons, List.length_append]
    omega
def caseD (c : List (Int × Bool) × Lf) : PyData := .tuple [.dict (c.1.map fun kv => (.int kv.1, .bool kv.2)), c.2.d]
def casesDt (cs : List (List (Int × Bool) × Lf)) : PyData := .list (cs.map caseD)
theorem lf_dq {H : Hp} (l : Lf) : Dq H (Lf.v l) l.d := by cases l <;> constructor
theorem kv_dq {H : Hp} : ∀ ws : List (Int × Bool), DqKv H (ws.map kvW) (ws.map fun kv => (PyData.int kv.1, PyData.bool kv.2))
  | [] => .nil
  | kv :: ws => .cons (.bl kv.2) (kv_dq ws)
theorem cases_dqA {H : Hp} : ∀ {ys : List V} {cs : List (List (Int × Bool) × Lf)}, YdI H ys cs → DqAll H ys (cs.map caseD)
  | [], [], .nil => .nil
  | _ :: _, c :: _, .cons ⟨p, d, e, h1, h2⟩ t => by
    rw [e]
    exact .cons (.tup h1 (.cons (.dic h2.1 (kv_dq c.1)) (.cons (lf_dq c.2) .nil))) (cases_dqA t)
theorem cases_dq {H : Hp} {p : Addr} {ys : List V} {cs : List (List (Int × Bool) × Lf)} (e : H p = some (.lst ys)) (h : YdI H ys cs) : Dq H (.ref p) (casesDt cs) := .lst e (cases_dqA h)
theorem case_mem {g : Lf → Prop} : ∀ {t : Tr} {ws : List (Int × Bool)}, allT g t → ∀ c ∈ casesOf ws t, c.1.length ≤ ws.length + t.dep ∧ (∀ kv ∈ c.1, kv ∈ ws ∨ kv.1 ∈ t.nums) ∧ g c.2
  | .lf l, ws, h, c, hc => by
    rw [List.mem_singleton.mp (show c ∈ [(ws, l)] from hc)]
    exact ⟨Nat.le_refl _, fun kv hk => .inl hk, h⟩
  | .nd n y o, ws, h, c, hc => by
    have hc : c ∈ casesOf (ws ++ [(n, true)]) y ++ casesOf (ws ++ [(n, false)]) o := hc
    have hd : (Tr.nd n y o).dep = max y.dep o.dep + 1 := rfl
    rcases List.mem_append.mp hc with hc | hc
    · obtain ⟨h1, h2, h3⟩ := case_mem h.1 c hc
      rw [List.length_append, List.length_singleton] at h1
      refine ⟨by omega, fun kv hk => ?_, h3⟩
      rcases h2 kv hk with z | z
      · rcases List.mem_append.mp z with z | z
        · exact .inl z
        · rw [List.mem_singleton.mp z]; exact .inr List.mem_cons_self
      · exact .inr (List.mem_cons_of_mem _ (List.mem_append_left _ z))
    · obtain ⟨h1, h2, h3⟩ := case_mem h.2 c hc
      rw [List.length_append, List.length_singleton] at h1
      refine ⟨by omega, fun kv hk => ?_, h3⟩
      rcases h2 kv hk with z | z
      · rcases List.mem_append.mp z with z | z
        · exact .inl z
        · rw [List.mem_singleton.mp z]; exact .inr List.mem_cons_self
      · exact .inr (List.mem_cons_of_mem _ (List.mem_append_right _ z))
theorem kv_shown : ∀ {ws : List (Int × Bool)}, (∀ kv ∈ ws, kv.1.natAbs < 10 ^ 20) → PyData.showable (.dict (ws.map fun kv => (PyData.int kv.1, PyData.bool kv.2))) = true ∧ ((PyData.shownKv (ws.map fun kv => (PyData.int kv.1, PyData.bool kv.2))).map fun t => t.length + 2).sum ≤ 40 * ws.length ∧ PyData.depth (.dict (ws.map fun kv => (PyData.int kv.1, PyData.bool kv.2))) ≤ 1
  | [], _ => ⟨rfl, Nat.zero_le _, by decide⟩
  | kv :: ws, h => by
    obtain ⟨h1, h2, h3⟩ := kv_shown fun x hx => h x (List.mem_cons_of_mem _ hx)
    have hk := h kv List.mem_cons_self
    refine ⟨?_, ?_, ?_⟩
    · have h1 : PyData.showableKv (ws.map fun kv => (PyData.int kv.1, PyData.bool kv.2)) = true := h1
      show ((PyData.showable (.int kv.1) && PyData.showable (.bool kv.2)) && PyData.showableKv (ws.map fun kv => (PyData.int kv.1, PyData.bool kv.2))) = true
      rw [h1, show PyData.showable (.int kv.1) = true from decide_eq_true (log_small hk)]
      rfl
    · rw [List.map_cons, PyData.shownKv_cons, List.map_cons, List.sum_cons, List.length_cons, Str.length_append, Str.length_append]
      have e1 : (PyData.int kv.1).shown.length ≤ 21 := (big_num hk).2.1
      have e2 : (PyData.bool kv.2).shown.length ≤ 5 := by cases kv.2 <;> decide +kernel
      have e3 : Str.length (Str.ofString ": ") = 2 := by decide +kernel
      rw [e3]
      omega
    · have h3 : PyData.depthKv (ws.map fun kv => (PyData.int kv.1, PyData.bool kv.2)) + 1 ≤ 1 := h3
      show max (max 0 0) (PyData.depthKv (ws.map fun kv => (PyData.int kv.1, PyData.bool kv.2))) + 1 ≤ 1
      omega
theorem cases_ok {t : Tr} (h : Gd t) : (casesDt (casesOf [] t)).showable = true ∧ (casesDt (casesOf [] t)).shown.length ≤ sizeLine ∧ (casesDt (casesOf [] t)).depth ≤ 60 := by
  obtain ⟨S, hS, mS, lS, cS, small⟩ := h.cn
  have nums : ∀ {t : Tr}, Rd t → ∀ n ∈ t.nums, n.natAbs < 10 ^ 20 := fun {t} => by
    induction t with
    | lf l => intro _ n hn; cases hn
    | nd j y o ih1 ih2 =>
      intro hr n hn
      rcases List.mem_cons.mp hn with e | e
      · rw [e]; exact hr.2.1
      · rcases List.mem_append.mp e with e | e
        · exact ih1 hr.2.2.1 n e
        · exact ih2 hr.2.2.2 n e
  have one : ∀ d ∈ (casesOf [] t).map caseD, Shq 4000 2 d := fun d hd => by
    obtain ⟨c, hc, rfl⟩ := List.mem_map.mp hd
    obtain ⟨h1, h2, h3⟩ := case_mem (rd_all h.rd h.hom) c hc
    have hk : ∀ kv ∈ c.1, kv.1.natAbs < 10 ^ 20 := fun kv hkv => (h2 kv hkv).elim (fun z => by cases z) (nums h.rd kv.1)
    obtain ⟨k1, k2, k3⟩ := kv_shown hk
    have hl : c.1.length ≤ 12 := by
      have := h.dp
      have h1 : c.1.length ≤ 0 + t.dep := h1
      omega
    have dq : Shq 1921 1 (.dict (c.1.map fun kv => (PyData.int kv.1, PyData.bool kv.2))) := by
      refine ⟨k1, ?_, k3⟩
      rw [PyData.shown_dict, Str.length_append, Str.length_append]
      have j := join_len (PyData.shownKv (c.1.map fun kv => (PyData.int kv.1, PyData.bool kv.2)))
      have e1 : Str.length (Str.ofString "{") = 1 := by decide +kernel
      have e2 : Str.length (Str.ofString "}") = 1 := by decide +kernel
      rw [e1, e2]
      omega
    have sl : Sml (.lf c.2) := Cn.sml (S := []) (by decide : 0 < 67) (by decide) (fun n hn => nomatch hn) (.lf h3)
    exact (Shq.tup (ds := [_, _]) (List.forall_mem_cons.mpr ⟨dq, List.forall_mem_cons.mpr ⟨(Shq.lf sl).mono (Nat.le_refl _) (by decide), fun d hd => nomatch hd⟩⟩)).mono (by show (1921 + 2) * 2 + 3 ≤ 4000; decide) (by decide)
  have z := Shq.lst one
  have hn : (casesOf [] t).length ≤ 401 := by
    have h1 := casesOf_len [] t
    rw [sz_nums] at h1
    have := h.nn
    omega
  refine ⟨z.s, Nat.le_trans z.l ?_, Nat.le_trans z.p (by decide)⟩
  rw [List.length_map, sizeLine_eq]
  omega
theorem sm_more : ∀ {t : Tr}, Rd t → Sm (moreT t)
  | .lf (.i n), h => by
    have h : n.natAbs < 10 ^ 20 := h
    show (n + 1).natAbs.log2 < 1920
    have h2 : (n + 1).natAbs < 2 ^ 70 := Nat.lt_of_le_of_lt (by omega : (n + 1).natAbs ≤ 10 ^ 20) (by decide)
    exact log_lt h2 (by decide) (by decide)
  | .lf (.b _), _ => True.intro
  | .nd n y o, h => ⟨log_small h.2.1, sm_more h.2.2.1, sm_more h.2.2.2⟩
theorem more_dep : ∀ t : Tr, (moreT t).dep = t.dep := fun t => by rw [← addT_more, addT_dep]
theorem hom_int : ∀ {t : Tr}, t.hom false → intT t
  | .lf (.i _), _ => True.intro
  | .lf (.b _), h => by cases (show true = false from h.symm)
  | .nd _ _ _, h => ⟨hom_int h.1, hom_int h.2⟩
theorem look_all {b : Bool} {n : Int} : ∀ {ns : List Int}, n ∈ ns → lookW (ns.map fun m => (m, b)) n = some b
  | m :: ns, h => by
    unfold lookW
    rw [List.map_cons, List.lookup_cons]
    by_cases e : n = m
    · rw [show (n == m) = true from by rw [e]; exact beq_self_eq_true _]
    · rw [show (n == m) = false from by rw [beq_eq_false_iff_ne]; exact e]
      exact look_all ((List.mem_cons.mp h).resolve_left e)
/-- what the law asks of the class -/
structure WB8 (P : Program) (w : World) (K : PySem.W.Frag) (mg : Str → Option Value) (base : Heap) (C : Addr) : Prop where
  cl : Cls K C
  eq : EqW P w K mg base C
  call : ∃ g, StX.CallO K C g ∧ FnR P w K mg base CX0 26 g (spCallW9 C)
  cases : ∃ f fd, Meth K C "cases" f ∧ GFn P w K mg base 24 f fd ["self"] (spCasesG C) ∧ Binds K fd ["self"] []
  isT : PrW P w K mg base C "is_truth" 24 (spIsT C)
  str : ∃ g, PySem.W.findIn K (.ref C) "__str__" = some (some (.ref g)) ∧ MdR P w K mg base 24 g (spStrW C)
  sf : PySem.W.selfFirst K C = true
  add : ∃ g, PySem.W.findIn K (.ref C) (PySem.dunder Operator.Add.info.2) = some (some (.ref g)) ∧ MdR P w K mg base 25 g (spAdd9 C)
  addT : OpT K C .Add "int"
theorem passE8 {P : Program} {w : World} {X : Cx} : Passes (L2.CX P w) X E0 := fun _ _ _ _ _ _ _ h => by
  obtain ⟨_, _, _, _, _, _, _, _, _, _, _, _, z⟩ := h
  exact z.elim
theorem op_add9 {X : Cx} {C : Addr} (sf : PySem.W.selfFirst X.K C = true) (D : ∃ g, PySem.W.findIn X.K (.ref C) (PySem.dunder Operator.Add.info.2) = some (some (.ref g)) ∧ MdR X.prog X.w X.K X.mg X.base 25 g (spAdd9 C)) (T : OpT X.K C .Add "int") (hr : Room 25 X.A) : OpR X (binaryOp .Add) (rOwT C "int" (spAdd9 C)) := by
  obtain ⟨g, h, M⟩ := D
  obtain ⟨fo, ro, rc, h1, h2, h3, h4, h5⟩ := T
  exact op_owT sf h h1 h2 h3 h4 h5 M hr
abbrev sAsB : Stmt := topS 56
theorem scAsB : FnScope ["_law_found_here", "_law_tree_here", "_law_cases_here", "_law_built_here", "_law_truth", "_law_value_here", "_law_words", "_law_number"] ["_law_found_here", "_law_tree_here"] (defScope sAsB) := ⟨rfl, rfl, rfl, by decide +kernel, rfl, by decide +kernel, by decide +kernel⟩
def spAsB (C : Addr) : Sp := fun vs H Q _ => ∃ (a : Addr) (v : V) (t : Tr), vs = [.ref a, v] ∧ Wo C H a t ∧ Tv H v t ∧ Gd t ∧ ∀ H', Same H H' → Q (.bl true) H'
section
variable {P : Program} {w : World} {K : PySem.W.Frag} {mg : Str → Option Value} {base : Heap} {C : Addr}
theorem ok_asB {f : Addr} {fd : FuncData} (F : Fun K "_law_as_built" "_law_as_built" sAsB f fd) (G : GloF mg) (W : WB8 P w K mg base C)
    (dca : Df P w K mg base "_law_cases" 14 ["_law_tree_here", "_law_words"] (spLCases 13)) (dbu : Df P w K mg base "_law_built" 38 ["_law_tree_here"] (spLBuilt C 13)) (dfo : Df P w K mg base "_law_found" 14 ["_law_tree_here"] (spFound9 13))
    (dtx : Df P w K mg base "_law_text" 14 ["_law_tree_here"] (spText 13)) (dmo : Df P w K mg base "_law_more" 14 ["_law_tree_here"] (spMore8 13)) : FnG P w K mg base CX0 40 f fd ["_law_found_here", "_law_tree_here"] (spAsB C) := by
  refine okG F scAsB (k := 39) (fun vs H Q E h => ?_) (fun cdv A outer s H vs Q E hr gd h => ?_)
  · obtain ⟨a, v, t, rfl, _⟩ := h
    rfl
  · obtain ⟨a, v, t, rfl, hw, hv, hg, q⟩ := h
    have T := G.toGloW
    have r24 : Room 24 _ := hr.mono (show 24 ≤ 39 by decide)
    have r25 : Room 25 _ := hr.mono (show 25 ≤ 39 by decide)
    have r26 : Room 26 _ := hr.mono (show 26 ≤ 39 by decide)
    have r27 : Room 27 _ := hr.mono (show 27 ≤ 39 by decide)
    obtain ⟨fc, fdc, hmc, GC, bc⟩ := W.cases
    obtain ⟨gs, hgs, ms⟩ := W.str
    obtain ⟨S, hS, mS, lS, cS, small⟩ := hg.cn
    refine ⟨_, (pss_cons (ps_par (i := 2) (j := 3) (by rfl) scAsB.nd rfl rfl (by decide) rfl rfl (pa_cons (pe_df (E := E0) dca (hr.mono (by decide)) (by rfl) (pa_cons (pv 1) (pa_cons pe_dnewK pa_nil))) (pa_cons (pe_df (E := E0) dbu (hr.mono (by decide)) (by rfl) (pa_cons (pv 1) pa_nil)) pa_nil)) (by rfl))
      (pss_cons (ps_if (PW.pt (pw_or (pt_cmpR (op_Wn W.eq r27) (pv 0) (pv 3) (nomark _)) (pw_or (pt_not (pt_cmpR (op_We W.eq r26) (pv 3) (pv 0) (nomark _))) (pw_or1 (pt_cmpR op_ne (pe_callB (call_reprQ gd hr.units) (by rfl) G.repr (by decide +kernel) (pa_cons (pe_listG (pgen_meth0 (E := E0) (pv 0) W.cl hmc GC r24 bc .nil) passE8 (fun _ _ _ h => h.elim) r27 (by rfl) G.list (by decide +kernel)) pa_nil)) (pe_callB (call_reprQ gd hr.units) (by rfl) G.repr (by decide +kernel) (pa_cons (pv 2) pa_nil)) (nomark _)))))) (pss_one (ps_ret pe_bl)) pss_nil)
      (pss_cons (ps_for PassesOwn.never rfl (pi_tup (pe_tup (pa_cons pe_bl (pa_cons pe_bl pa_nil)))) (pg_name (i := 4) scAsB.nd rfl (Or.inr rfl)) (pss_cons (ps_par (i := 5) (j := 6) (by rfl) scAsB.nd rfl rfl (by decide) rfl rfl (pa_cons (pv 1) (pa_cons (pe_callTy (call_dictP rfl) (by rfl) T.dict (by decide +kernel) (pa_cons (pe_lc (own := [("_law_number", 7)]) (g := gName 7) (by rfl) scAsB.nd (pi_list (pe_df (E := E0) dfo (hr.mono (by decide)) (by rfl) (pa_cons (pv 1) pa_nil))) (blkOk_by (own := [("_law_number", 7)]) (N := ["_law_found_here", "_law_tree_here", "_law_cases_here", "_law_built_here", "_law_truth", "_law_value_here", "_law_words", "_law_number"]) (sc := defScope sAsB) (by decide +kernel)) (fun _ _ _ _ _ => (pg_name (i := 7) scAsB.nd rfl (Or.inl rfl))) (fun _ _ _ _ _ => pts_nil) (fun _ _ _ _ _ => (pe_tup (pa_cons (pv 7) (pa_cons (pv 4) pa_nil))))) pa_nil)) pa_nil)) (by rfl))
      (pss_cons (ps_while PassesOwn.never (pt_val (pe_callB (id := "isinstance") (show CallR _ (.builtin "isinstance") (rIsi K) from call_isi) (by rfl) T.isinstance (by decide +kernel) (pa_cons (pv 5) (pa_cons (pe_bltn (v := .ty "tuple") (by rfl) T.tuple (by decide +kernel) rfl) pa_nil)))) (pss_one (ps_set (i := 5) scAsB.nd rfl (Or.inl rfl) (pe_ifExp (pt_val (pv 4)) (pe_ix ix_tup (pv 5) pe_int (fun _ _ => rfl)) (pe_ix ix_tup (pv 5) pe_int (fun _ _ => rfl))))))
      (pss_one (ps_if (pt_cmpR op_ne (pe_callB (call_reprD gd hr.units) (by rfl) G.repr (by decide +kernel) (pa_cons (pe_callW W.call r26 (pv 0) (pv 6)) pa_nil)) (pe_callB (call_reprD gd hr.units) (by rfl) G.repr (by decide +kernel) (pa_cons (pv 5) pa_nil)) (nomark _)) (pss_one (ps_ret pe_bl)) pss_nil)))))
      (pss_one (ps_ret (pe_or (pe_pr W.isT W.cl r25 (pv 0)) (pe_one (pe_cmpR op_eq (pe_callTy (call_strO hgs ms (hr.mono (by decide))) (by rfl) T.str (by decide +kernel) (pa_cons (pe_op (op_add9 W.sf W.add W.addT r25) (pv 0) pe_int) pa_nil)) (pe_df (E := E0) dtx (hr.mono (by decide)) (by rfl) (pa_cons (pe_df (E := E0) dmo (hr.mono (by decide)) (by rfl) (pa_cons (pv 1) pa_nil)) pa_nil)) (nomark _))))))))), ?_⟩
    obtain ⟨dx, u, hi, hu⟩ := id hw
    have d12 := hg.dp
    have hsz : t.sz ≤ 401 := by rw [sz_nums]; have := hg.nn; omega
    -- cases, built
    refine ⟨_, rfl, fun d nd => ?_⟩
    have s1 := same_upd (o := .dK []) nd
    have ed : (upd H d (.dK [])) d = some (.dK []) := upd_same
    refine ⟨v, d, t, [], 0, rfl, hv.same s1, ⟨ed, List.nodup_nil, Nat.zero_le _⟩, by omega, by show 0 + t.dep ≤ 60; omega, (fun k hk => nomatch hk), hg.up, by omega, fun pc H2 ys s2 ec yd => ?_⟩
    have sA : Same H H2 := fun b o z => s2 b o (s1 b o z)
    refine ⟨_, rfl, v, t, leftB t, 0, rfl, hv.same sA, by omega, by decide, Int.le_refl _, hg.up, hg.nq, hg.hom, fun pb H3 s3 nb wb => ?_⟩
    have sB : Same H H3 := fun b o z => s3 b o (sA b o z)
    refine ⟨_, _, rfl, ?_⟩
    -- they are equal
    have w3 := hw.kp (Same.kp sB)
    obtain ⟨dxb, ub, hib, hub⟩ := id wb
    refine ⟨_, rfl, _, rfl, a, dx, _, pb, dxb, _, rfl, rfl, sB _ _ hi, hib, a, pb, t, t, leftB t, leftB t, rfl, w3, wb, by omega, by omega, hg.hom, hg.hom, _, rfl, _, rfl, ?_⟩
    rw [decide_eq_true rfl]
    refine iteF ?_
    refine ⟨_, rfl, _, rfl, pb, dxb, _, a, dx, _, rfl, rfl, hib, sB _ _ hi, pb, a, t, t, leftB t, leftB t, rfl, wb, w3, by omega, by omega, hg.hom, hg.hom, _, rfl, ?_⟩
    rw [decide_eq_true rfl]
    refine iteF ?_
    obtain ⟨o1, o2, o3⟩ := cases_ok hg
    refine ⟨_, rfl, a, dx, _, rfl, sB _ _ hi, rfl, a, t, rfl, w3, ⟨0, hg.up⟩, by omega, by omega, fun H4 ys2 s4 yd2 pl npl => ?_⟩
    have s5 := same_upd (o := .lst ys2) npl
    have e5 : (upd H4 pl (.lst ys2)) pl = some (.lst ys2) := upd_same
    have sC : Same H3 (upd H4 pl (.lst ys2)) := fun b o z => s5 b o (s4 b o z)
    refine ⟨pl, _, rfl, cases_dq e5 (YdI.same s5 yd2), o1, o2, o3, _, rfl, pc, _, rfl, cases_dq (sC _ _ (s3 _ _ ec)) (YdI.same sC (YdI.same s3 yd)), o1, o2, o3, rfl, ?_⟩
    rw [decide_eq_true rfl]
    refine ⟨_, rfl, iteF ?_⟩
    have sD : Same H (upd H4 pl (.lst ys2)) := fun b o z => sC b o (sB b o z)
    generalize upd H4 pl (.lst ys2) = H5 at sD ⊢
    -- all hold, or none
    refine ⟨(by show 2 ≤ sizeLine; decide), fun tp ntp => ?_⟩
    have s6 := same_upd (o := .tup [.bl true, .bl false]) ntp
    have e6 : (upd H5 tp (.tup [.bl true, .bl false])) tp = some (.tup [.bl true, .bl false]) := upd_same
    have sE : Same H (upd H5 tp (.tup [.bl true, .bl false])) := fun b o z => s6 b o (sD b o z)
    generalize upd H5 tp (.tup [.bl true, .bl false]) = H6 at sE e6 ⊢
    refine ⟨tp, rfl, ⟨_, SqT.of e6⟩, for_tup (xs := [.bl true, .bl false]) (fun i σ H' => (∃ z4 z5 z6 z7, σ = [some (.ref a), some v, some (.ref pc), some (.ref pb), z4, z5, z6, z7]) ∧ Same H6 H') ⟨⟨_, _, _, _, rfl⟩, fun _ _ z => z⟩ ?_ ?_ ?_⟩
    · rintro i σ H' _ ⟨_, s⟩
      exact SqT.of (s _ _ e6)
    · rintro i x σ H7 hx ⟨⟨z4, z5, z6, z7, rfl⟩, s7⟩
      obtain ⟨b, rfl⟩ : ∃ b, x = .bl b := by
        match i, hx with
        | 0, hx => exact ⟨true, (Option.some.inj hx).symm⟩
        | 1, hx => exact ⟨false, (Option.some.inj hx).symm⟩
        | _ + 2, hx => exact nomatch hx
      have sF : Same H H7 := fun c o z => s7 c o (sE c o z)
      refine ⟨_, rfl, _, rfl, v, t, _, _, S, rfl, hv.same sF, by omega, hS, lS, cS, fun pf H8 ns s8 ef as8 mn8 ln8 => ?_⟩
      have sG : Same H H8 := fun c o z => s8 c o (sF c o z)
      refine ⟨pf, rfl, ⟨_, SqL.of ef⟩, fun D nD => lc_list (xs := ns.map V.int) (te := tTup (tCons (tVar 7) (tCons (tVar 4) tNil))) (fun i H' => Same H8 H' ∧ ∃ ts : List Addr, H' D = some (.lst (ts.map V.ref)) ∧ Prw H' ts ((ns.take i).map fun m => (m, b))) ⟨same_upd nD, [], upd_same, .nil⟩ ?_ ?_ ?_⟩
      · rintro i H' _ ⟨s, _⟩
        exact SqL.of (s _ _ ef)
      · rintro j y H9 hy ⟨s9, ts, e9, pr9⟩
        rw [List.getElem?_map] at hy
        cases hn : ns[j]? with
        | none => rw [hn] at hy; cases hy
        | some n =>
        rw [hn] at hy
        cases hy
        refine ⟨rfl, _, rfl, _, rfl, (by show 2 ≤ sizeLine; decide), fun tq ntq => ?_⟩
        have s10 := same_upd (o := .tup [.int n, .bl b]) ntq
        have e10 : (upd H9 tq (.tup [.int n, .bl b])) tq = some (.tup [.int n, .bl b]) := upd_same
        have e9' := s10 _ _ e9
        have pr10 := pr9.same s10
        have tD : tq ≠ D := fun z => by rw [z, e9] at ntq; cases ntq
        have lts := pr9.len
        rw [List.length_map] at lts
        generalize upd H9 tq (.tup [.int n, .bl b]) = H10 at s10 e10 e9' pr10 ⊢
        have hlt : j < ns.length := (List.getElem?_eq_some_iff.mp hn).1
        refine ⟨_, e9', ?_, fun c o z => ?_, ts ++ [tq], ?_, ?_⟩
        · rw [List.length_map, lts, List.length_take, sizeLine_eq]; omega
        · rw [upd_ne (fun w => by rw [w, nD] at z; cases z)]
          exact s10 _ _ (s9 _ _ z)
        · rw [upd_same, List.map_append]; rfl
        · rw [List.take_succ, hn, List.map_append]
          refine Prw.snoc ?_ ?_
          · rw [upd_ne tD]; exact e10
          · exact Paired.mapP pr10 fun q kv e => by
              rw [upd_ne (fun w => by rw [w, e9'] at e; cases e)]
              exact e
      · rintro H9 ⟨s9, ts, e9, pr9⟩
        rw [List.length_map, List.take_length] at pr9
        refine ⟨D, ts, _, rfl, SqL.of e9, pr9.kv, fun dw ndw => ?_⟩
        have nodup : ((([] : List (Int × Bool)) ++ ns.map fun m => (m, b)).map (·.1)).Nodup := by
          rw [List.nil_append, List.map_map, show ((fun x : Int × Bool => x.1) ∘ fun m => (m, b)) = id from rfl, List.map_id]
          exact as8.imp fun h => by omega
        have em : mergeK [] ((ns.map fun m => (m, b)).map kvW) = (ns.map fun m => (m, b)).map kvW := merge_fresh (ns.map fun m => (m, b)) [] nodup
        rw [em]
        have s10 := same_upd (o := .dK ((ns.map fun m => (m, b)).map kvW)) ndw
        have e10 : (upd H9 dw (.dK ((ns.map fun m => (m, b)).map kvW))) dw = some (.dK ((ns.map fun m => (m, b)).map kvW)) := upd_same
        have sH : Same H7 (upd H9 dw (.dK ((ns.map fun m => (m, b)).map kvW))) := fun c o z => s10 c o (s9 c o (s8 c o z))
        refine ⟨_, _, rfl, ?_⟩
        generalize upd H9 dw (.dK ((ns.map fun m => (m, b)).map kvW)) = H10 at sH e10 ⊢
        have sI : Same H H10 := fun c o z => sH c o (sF c o z)
        have wd : Wd H10 dw (lookW (ns.map fun m => (m, b))) := ⟨_, e10, fun n => val_kvW _ n⟩
        have all_b : ∀ n ∈ t.nums, lookW (ns.map fun m => (m, b)) n = some b := fun n hn => look_all ((mn8 n).mpr hn)
        refine ⟨fun m σ' H' => ∃ (v' : V) (t' : Tr) (z7 : Option V), σ' = [some (.ref a), some v, some (.ref pc), some (.ref pb), some (.bl b), some v', some (.ref dw), z7] ∧ H' = H10 ∧ Tv H10 v' t' ∧ t'.dep = m ∧ sideT b t' = sideT b t, ⟨t.dep, v, t, _, rfl, rfl, hv.same sI, rfl, rfl⟩, ?_⟩
        rintro m σ' H' ⟨v', t', z7', rfl, rfl, hv', rfl, et'⟩
        obtain ⟨ty, y1, y2⟩ := tv_tuple (K := K) hv'
        refine ⟨_, rfl, _, _, _, _, _, rfl, .ty "tuple", y1, y2, _, rfl, ?_⟩
        cases t' with
        | nd n ty to =>
          obtain ⟨c, y, o, rfl, g1, g2, g3⟩ := hv'.nd_of
          refine ⟨fun σ3 H3 => ∃ (v3 : V) (t3 : Tr) (z7 : Option V), σ3 = [some (.ref a), some v, some (.ref pc), some (.ref pb), some (.bl b), some v3, some (.ref dw), z7] ∧ H3 = H' ∧ Tv H' v3 t3 ∧ t3.dep < (Tr.nd n ty to).dep ∧ sideT b t3 = sideT b t, fun σ3 H3 ⟨v3, t3, z7, e1, e2, e3, e4, e5⟩ => ⟨_, e4, v3, t3, z7, e1, e2, e3, rfl, e5⟩, ?_⟩
          have hdep : (Tr.nd n ty to).dep = max ty.dep to.dep + 1 := rfl
          cases b with
          | true => exact ⟨_, rfl, _, rfl, _, rfl, c, _, _, _, rfl, rfl, SqT.of g1, rfl, y, ty, _, rfl, rfl, g2, by omega, et'⟩
          | false => exact ⟨_, rfl, _, rfl, _, rfl, c, _, _, _, rfl, rfl, SqT.of g1, rfl, o, to, _, rfl, rfl, g3, by omega, et'⟩
        | lf l =>
          obtain rfl := hv'.lf_of
          have et' : l = sideT b t := et'
          have ga : Lg (leftB t) 67 l := by rw [et']; exact side_all (rd_all hg.rd hg.hom)
          have sml : Sml (.lf l) := Cn.sml (S := []) (by decide : 0 < 67) (by decide) (fun n hn => nomatch hn) (.lf ga)
          have shl := Shw.lf sml
          have lenl : l.d.shown.length ≤ sizeLine := Nat.le_trans shl.l (by decide)
          have depl : l.d.depth ≤ 60 := Nat.le_trans shl.p (by decide)
          have bare : ∀ {Hx : Hp}, Dp K Hx (Lf.v l) l.d := fun {Hx} => by cases l <;> constructor
          have w10 := hw.kp (Same.kp sI)
          refine ⟨_, rfl, a, rfl, _, rfl, ⟨a, dx, _, rfl, sI _ _ hi⟩, a, dw, t, _, leftB t, 67, S, rfl, w10, wd, hS, lS, by omega, cS, (fun n hn => by rw [all_b n ((mS n).mp hn)]; rfl), fun l' H11 s11 _ el => ?_⟩
          have el' : l' = l := by
            rw [el fun _ => true, ev_side all_b, et']
          subst el'
          refine ⟨_, l'.d, rfl, bare, shl.s, shl.n, lenl, depl, _, rfl, _, l'.d, rfl, bare, shl.s, shl.n, lenl, depl, rfl, ?_⟩
          rw [decide_eq_true rfl]
          refine ⟨_, rfl, iteF ?_⟩
          exact ⟨⟨_, _, _, _, rfl⟩, fun c o z => s11 c o (sH c o (s7 c o z))⟩
    · rintro σ H7 ⟨⟨z4, z5, z6, z7, rfl⟩, s7⟩
      have sF : Same H H7 := fun c o z => s7 c o (sE c o z)
      have w7 := hw.kp (Same.kp sF)
      refine ⟨_, rfl, a, dx, _, rfl, sF _ _ hi, a, t, leftB t, rfl, w7, by omega, hg.hom, _, rfl, ?_⟩
      refine ite2 (fun hb => ?_) (fun hb => ?_)
      · exact q _ sF
      · have hk : leftB t = false := Bool.eq_false_iff.mpr hb
        have hom := hg.hom
        have al := rd_all hg.rd hg.hom
        rw [hk] at hom al
        refine ⟨_, rfl, a, dx, _, rfl, sF _ _ hi, .inl ⟨rfl, 1, rfl⟩, a, t, 1, 67, rfl, w7, by omega, by decide, al, ⟨rfl, by decide⟩, hg.nq, fun p1 H8 s8 n8 w8 => ?_⟩
        have sG : Same H H8 := fun c o z => s8 c o (sF c o z)
        rw [addT_more] at w8
        obtain ⟨dx1, u1, hi1, _⟩ := id w8
        refine ⟨p1, dx1, _, rfl, hi1, p1, moreT t, rfl, w8, by rw [more_dep]; omega, sm_more hg.rd, _, rfl, ?_⟩
        refine ⟨_, rfl, v, t, rfl, hv.same sG, hom_int hom, by omega, fun v2 H9 s9 tv9 => ?_⟩
        refine ⟨v2, moreT t, rfl, tv9, by rw [more_dep]; omega, by rw [more_dep]; omega, sm_more hg.rd, rfl, ?_⟩
        rw [decide_eq_true rfl]
        exact q _ fun c o z => s9 c o (sG c o z)
end
end Law
set_option Elab.async false
set_option linter.all false
set_option maxRecDepth 100000
set_option maxHeartbeats 1000000
namespace Law
open PySem PySem.Spec PyProof.Rows L2 Cor
def ndR : RT → Nat
  | .nd _ y o => 1 + ndR y + ndR o
  | _ => 0
def ndV : SV → Nat
  | .t r => ndR r
  | _ => 0
theorem asRT_nd {s : SV} {r : RT} (h : asRT s = some r) : ndR r = ndV s := by
  cases s with
  | w x => cases h; rfl
  | n => cases h
  | t q => cases h; rfl
theorem step_nd {S S' : List SV} {w : Str} {c : Nat} (h : (S.map ndV).sum ≤ c) (e : stepL S w = some S') : (S'.map ndV).sum ≤ (if w = ")" then c + 1 else c) := by
  by_cases hw : w = ")"
  · subst hw
    rw [if_pos rfl]
    cases hf : foldL (S.drop (S.length - 6)) with
    | none => rw [step_none hf] at e; cases e
    | some r =>
      rw [step_some hf] at e
      cases e
      obtain ⟨a, b, d, n, y, o, el, h1, h2, h3, rfl⟩ := foldL_of hf
      have e1 : (S.map ndV).sum = ((S.take (S.length - 6)).map ndV).sum + ((S.drop (S.length - 6)).map ndV).sum := by
        rw [← List.sum_append, ← List.map_append, List.take_append_drop]
      rw [el] at e1
      have e2 : ([SV.w "(", a, .w "?", b, .w ":", d].map ndV).sum = 0 + (ndV a + (0 + (ndV b + (0 + (ndV d + 0))))) := rfl
      rw [e2] at e1
      have e3 := asRT_nd h2
      have e4 := asRT_nd h3
      rw [List.map_append, List.sum_append]
      have e5 : ([SV.t (.nd n y o)].map ndV).sum = 1 + ndR y + ndR o + 0 := rfl
      rw [e5]
      omega
  · rw [stepL_item hw] at e
    cases e
    rw [if_neg hw, List.map_append, List.sum_append]
    have : ndV (itemOf w) = 0 := by
      unfold itemOf
      split
      · rfl
      · cases leafT w <;> rfl
    show _ + (ndV (itemOf w) + 0) ≤ c
    omega
theorem run_nd : ∀ {ws : List Str} {S S' : List SV} {c : Nat}, (S.map ndV).sum ≤ c → runL S ws = some S' → (S'.map ndV).sum ≤ c + clW ws
  | [], S, S', c, h, e => by cases e; exact h
  | w :: r, S, S', c, h, e => by
    have e : (match stepL S w with | some S' => runL S' r | none => none) = some S' := e
    cases hs : stepL S w with
    | none => rw [hs] at e; cases e
    | some S1 =>
      rw [hs] at e
      have := run_nd (step_nd h hs) e
      have ec : (if w = ")" then c + 1 else c) + clW r = c + clW (w :: r) := by
        unfold clW
        rw [List.countP_cons]
        by_cases hw : w = ")"
        · rw [if_pos hw, if_pos (decide_eq_true hw)]; omega
        · rw [if_neg hw, if_neg (fun z => hw (of_decide_eq_true z))]; omega
      rw [ec] at this
      exact this
theorem kinds_nd : ∀ r : RT, (kindsR r).length ≤ 4 * ndR r + 1
  | .lf _ => Nat.le_refl _
  | .st _ => Nat.le_refl _
  | .nd n y o => by
    have h1 := kinds_nd y
    have h2 := kinds_nd o
    have o1 : ∀ r : RT, (ordR n r).length ≤ 1 := fun r => by
      cases r with
      | lf _ => exact Nat.zero_le _
      | st _ => exact Nat.zero_le _
      | nd m _ _ =>
        show (if m ≤ n then [("order" : Str)] else []).length ≤ 1
        split <;> decide
    have o2 := o1 y
    have o3 := o1 o
    show (kindsR y ++ kindsR o ++ (if y.dd.shown = o.dd.shown then [("same" : Str)] else []) ++ (ordR n y ++ ordR n o)).length ≤ 4 * (1 + ndR y + ndR o) + 1
    have h3 : (if y.dd.shown = o.dd.shown then [("same" : Str)] else []).length ≤ 1 := by split <;> decide
    rw [List.length_append, List.length_append, List.length_append, List.length_append]
    omega
/-- what is read is not large -/
structure Rok (r : RT) : Prop where
  ok : OkR r
  dp : depR r ≤ 170
  kn : (kindsR r).length ≤ 681
theorem law_rok {x : Str} {r : RT} (h : lawT x = some r) (hw : (wordsL x).length ≤ 2500) (hc : clW (wordsL x) ≤ 170) : Rok r := by
  unfold lawT at h
  split at h
  · cases h
  · split at h
    · rename_i r' hr
      cases h
      have st := run_ok (k := 0) (c := 0) ⟨fun _ h => absurd h (by simp), Nat.le_refl _⟩ hr
      have nd := run_nd (c := 0) (Nat.le_refl _) hr
      have h1 := st.ok (.t r) List.mem_cons_self
      have h2 := st.wt1 (s := .t r) List.mem_cons_self
      have nd : ndR r + 0 ≤ 0 + clW (wordsL x) := nd
      have k := kinds_nd r
      have h2 : wtR r ≤ 0 + (wordsL x).length := h2
      have h3 : depR r ≤ 0 + clW (wordsL x) := h1.2
      exact ⟨ok_R h1.1.1 (by omega) (by omega), by omega, by omega⟩
    · cases h
theorem lawOk_eq {x : Str} {r : RT} (h : lawT x = some r) : lawOk x = if (∀ s ∈ kindsR r, some s = (kindsR r).head?) ∧ (kindsR r).head? ≠ some "other" ∧ depR r ≤ 12 then some r else none := by
  unfold lawOk
  rw [h]
theorem lawOk_no {x : Str} (h : lawT x = none) : lawOk x = none := by
  unfold lawOk
  rw [h]
/-- all the same: the set has one member -/
theorem one_kind {ks ns : List Str} (hd : ks.Nodup) (hm : ∀ k, k ∈ ks ↔ k ∈ ns) {s : Str} {q : List Str} (e : ns = s :: q) : ks.length = 1 ↔ ∀ x ∈ ns, some x = ns.head? := by
  subst e
  constructor
  · intro h x hx
    obtain ⟨k, rfl⟩ := List.length_eq_one_iff.mp h
    have h1 := (hm x).mpr hx
    have h2 := (hm s).mpr List.mem_cons_self
    rw [List.mem_singleton.mp h1, List.head?_cons, List.mem_singleton.mp h2]
  · intro h
    have all : ∀ k ∈ ks, k = s := fun k hk => Option.some.inj (h k ((hm k).mp hk))
    have hs := (hm s).mpr List.mem_cons_self
    match ks, hd, all, hs with
    | [k], _, _, _ => rfl
    | k :: k' :: r, hd, all, _ =>
      have e1 := all k List.mem_cons_self
      have e2 := all k' (List.mem_cons_of_mem _ List.mem_cons_self)
      rw [e1, e2] at hd
      exact absurd List.mem_cons_self (List.nodup_cons.mp hd).1
end Law
set_option Elab.async false
set_option linter.all false
set_option maxRecDepth 100000
set_option maxHeartbeats 1000000
namespace Law
open PySem PySem.Spec PyProof.Rows L2 Cor LamX NdefX
abbrev sChain8 : Stmt := topS 57
theorem scChain8 : FnScope ["_law_many", "_law_k"] ["_law_many"] (defScope sChain8) := ⟨rfl, rfl, rfl, by decide +kernel, rfl, by decide +kernel, by decide +kernel⟩
def pieceX (k : Nat) : Str := ("(" : Str) ++ Str.ofString (toString ((k : Int) + 1)) ++ (" ? 0 : " : Str)
theorem piece_len {k : Nat} (h : k ≤ 2000) : (Str.ofString (toString ((k : Int) + 1))).length ≤ 21 := (big_num (n := (k : Int) + 1) (by omega)).2.1
theorem len_add (a b : Str) : (a ++ b).length = a.length + b.length := by rw [← len_cps, ← len_cps, ← len_cps, Str.cps_append, Array.toList_append, List.length_append]
theorem pieces_sum : ∀ (l : List Nat), (∀ k ∈ l, k ≤ 2000) → ((l.map pieceX).map (·.length)).sum ≤ 29 * l.length
  | [], _ => Nat.zero_le _
  | k :: r, h => by
    have ih := pieces_sum r fun x hx => h x (List.mem_cons_of_mem _ hx)
    have h1 := piece_len (h k List.mem_cons_self)
    have e1 : ("(" : Str).length = 1 := by decide +kernel
    have e2 : (" ? 0 : " : Str).length = 7 := by decide +kernel
    have h2 : (pieceX k).length ≤ 29 := by
      show (("(" : Str) ++ Str.ofString (toString ((k : Int) + 1)) ++ (" ? 0 : " : Str)).length ≤ 29
      rw [len_add, len_add, e1, e2]
      omega
    show (pieceX k).length + ((r.map pieceX).map (·.length)).sum ≤ 29 * (r.length + 1)
    omega
def chainX (m : Nat) : Str := Txt.join "" ((List.range m).map pieceX) ++ ("1" : Str) ++ repS ")" m
def spChain8 : Sp := fun vs H Q _ => ∃ m : Nat, vs = [.int (m : Nat)] ∧ m ≤ 2000 ∧ ∀ H', Same H H' → Q (.str (chainX m)) H'
section
variable {P : Program} {w : World} {K : PySem.W.Frag} {mg : Str → Option Value} {base : Heap}
theorem ok_chain8 {f : Addr} {fd : FuncData} (F : Fun K "_law_chain" "_law_chain" sChain8 f fd) (T : GloP K mg) (zr : mg "range" = none) (zs : mg "str" = none) : FnOk P w K mg base CX0 1 f fd ["_law_many"] spChain8 := by
  refine F.ok scChain8 (k := 0) (fun vs H Q E h => ?_) (fun cdv A outer s H vs Q E hr h => ?_)
  · obtain ⟨m, rfl, _⟩ := h
    rfl
  · obtain ⟨m, rfl, hm, q⟩ := h
    refine ⟨_, (pss_one (ps_ret (pe_op op_add_str (pe_op op_add_str (pe_join pe_str (pe_lc (own := [("_law_k", 1)]) (g := gName 1) (by rfl) scChain8.nd (pi_range1 (by rfl) T.range (pa_cons (pv 0) pa_nil)) (blkOk_by (own := [("_law_k", 1)]) (N := ["_law_many", "_law_k"]) (sc := defScope sChain8) (by decide +kernel)) (fun _ _ _ _ _ => (pg_name (i := 1) scChain8.nd rfl (Or.inl rfl))) (fun _ _ _ _ _ => pts_nil) (fun _ _ _ _ _ => (pe_op op_add_str (pe_op op_add_str pe_str (pe_callTy call_str_int (by rfl) zs (by decide +kernel) (pa_cons (pe_op op_add (pv 1) pe_int) pa_nil))) pe_str)))) pe_str) (pe_op op_mulB pe_str (pv 0))))), ?_⟩
    refine ⟨⟨_, rfl⟩, _, rfl, m, rfl, by omega, by omega, fun D nD => lc_range (lo := 0) (fun i H' => Same H H' ∧ H' D = some (.lst (((List.range i).map pieceX).map V.str))) ⟨same_upd nD, upd_same⟩ ?_ ?_⟩
    · rintro i H6 hi ⟨s6, e6⟩
      have hi : i < m := by rwa [Int.toNat_natCast] at hi
      rw [Int.zero_add]
      have h1 := piece_len (k := i) (by omega)
      have e1 : ("(" : Str).length = 1 := by decide +kernel
      have e2 : (" ? 0 : " : Str).length = 7 := by decide +kernel
      refine ⟨rfl, _, rfl, _, _, rfl, rfl, _, rfl, log_small (by omega), _, _, rfl, rfl, by rw [e1, sizeLine_eq]; omega, _, _, rfl, rfl, by rw [len_add, e1, e2, sizeLine_eq]; omega, _, e6, ?_, fun b ob e => ?_, ?_⟩
      · rw [List.length_map, List.length_map, List.length_range, sizeLine_eq]; omega
      · rw [upd_ne (fun z => by rw [z, nD] at e; cases e)]
        exact s6 _ _ e
      · rw [upd_same, List.range_succ, List.map_append, List.map_append]
        rfl
    · rintro H6 ⟨s6, e6⟩
      rw [Int.toNat_natCast] at e6
      have hs := pieces_sum (List.range m) fun k hk => by have := List.mem_range.mp hk; omega
      rw [List.length_range] at hs
      refine ⟨_, D, _, rfl, rfl, .inl (SqL.of e6), ?_, ?_⟩
      · rw [List.length_map, List.length_range]
        have : ("" : Str).length = 0 := by decide +kernel
        rw [this]
        omega
      have e0 : ("" : Str).length = 0 := by decide +kernel
      have jl : (Txt.join "" ((List.range m).map pieceX)).length = (((List.range m).map pieceX).map (·.length)).sum + (((List.range m).map pieceX).length - 1) * ("" : Str).length := size_glued "" _
      rw [e0, Nat.mul_zero, Nat.add_zero] at jl
      have e1 : ("1" : Str).length = 1 := by decide +kernel
      have er := rep_len (z := (")" : Str)) (by decide +kernel) m
      refine ⟨_, _, rfl, rfl, by rw [e1, sizeLine_eq]; omega, _, rfl, _, m, rfl, rfl, by omega, by decide +kernel, _, _, rfl, rfl, ?_, q _ s6⟩
      rw [len_add, e1, er, sizeLine_eq]
      omega
end
end Law
set_option Elab.async false
set_option linter.all false
namespace Cor
open PySem PySem.Spec PyProof.Rows L2
theorem cut_dropV (xs : List V) (k : Nat) : cutV xs (some (k : Int)) none = xs.drop k := by
  unfold cutV HT.sIx
  simp only []
  split <;> rename_i h
  · omega
  · rw [List.take_of_length_le]
    · by_cases hk : k ≤ xs.length
      · congr 1; omega
      · rw [List.drop_eq_nil_of_le (by omega), List.drop_eq_nil_of_le (by omega)]
    · rw [List.length_drop]; omega
theorem cut_takeV (xs : List V) (k : Nat) : cutV xs none (some (k : Int)) = xs.take k := by
  unfold cutV HT.sIx
  simp only [List.drop_zero]
  split <;> rename_i h
  · omega
  · by_cases hk : k ≤ xs.length
    · congr 1; omega
    · rw [List.take_of_length_le (by omega), List.take_of_length_le (by omega)]
theorem inV_str (x : Str) : ∀ l : List Str, inV (.str x) (l.map V.str) = decide (x ∈ l)
  | [] => rfl
  | a :: r => by
    have ih := inV_str x r
    unfold inV at ih ⊢
    rw [List.map_cons, List.any_cons, ih]
    show ((a == x) || decide (x ∈ r)) = decide (x ∈ a :: r)
    by_cases h : a = x
    · subst h
      rw [decide_eq_true (List.mem_cons_self (a := a) (l := r))]
      simp
    · have : (a == x) = false := by simpa using h
      rw [this, Bool.false_or]
      refine decide_eq_decide.mpr ⟨fun z => List.mem_cons_of_mem _ z, fun z => ?_⟩
      rcases List.mem_cons.mp z with z | z
      · exact absurd z.symm h
      · exact z
end Cor
set_option Elab.async false
set_option linter.all false
set_option maxRecDepth 100000
set_option maxHeartbeats 1000000
namespace Law
open PySem PySem.Spec PyProof.Rows L2 Cor LamX NdefX
abbrev sRead8 : Stmt := topS 49
theorem scRead8 : FnScope ["_law_text_here", "_law_words", "_law_made", "_law_word", "_law_row_here", "_law_at", "_law_number", "_law_yes", "_law_no"] ["_law_text_here"] (defScope sRead8) := ⟨rfl, rfl, rfl, by decide +kernel, rfl, by decide +kernel, by decide +kernel⟩
inductive Sv (H : Hp) : V → SV → Prop
  | w (s : Str) : Sv H (.str s) (.w s)
  | n : Sv H .non .n
  | t {v : V} {r : RT} : Rv H v r → Sv H v (.t r)
inductive Svs (H : Hp) : List V → List SV → Prop
  | nil : Svs H [] []
  | cons {v : V} {s : SV} {vs : List V} {S : List SV} : Sv H v s → Svs H vs S → Svs H (v :: vs) (s :: S)
/-- tuples stay -/
def KtT (H H' : Hp) : Prop := ∀ a xs, H a = some (.tup xs) → H' a = some (.tup xs)
theorem KtT.of {H H' : Hp} (s : Same H H') : KtT H H' := fun _ _ e => s _ _ e
theorem KtT.upd {H H' : Hp} {M : Addr} {l l' : List V} (k : KtT H H') (e : H' M = some (.lst l)) : KtT H (upd H' M (.lst l')) := fun a xs h => by
  rw [upd_ne (fun z => by rw [z] at h; rw [k _ _ h] at e; cases e)]
  exact k _ _ h
theorem Rv.tk {H H' : Hp} (s : KtT H H') : ∀ {r : RT} {v : V}, Rv H v r → Rv H' v r
  | .lf l, _, h => by rw [h.lf_of]; exact .lf l
  | .st x, _, h => by rw [h.st_of.1]; exact .st x h.st_of.2
  | .nd n y o, _, h => by
    obtain ⟨a, vy, vo, rfl, h1, h2, h3⟩ := h.nd_of
    exact .nd (s _ _ h1) (Rv.tk s h2) (Rv.tk s h3)
theorem Sv.tk {H H' : Hp} (s : KtT H H') {v : V} {x : SV} (h : Sv H v x) : Sv H' v x := by
  cases h with
  | w y => exact .w y
  | n => exact .n
  | t h => exact .t (h.tk s)
theorem Svs.tk {H H' : Hp} (s : KtT H H') : ∀ {vs : List V} {S : List SV}, Svs H vs S → Svs H' vs S
  | _, _, .nil => .nil
  | _, _, .cons h t => .cons (h.tk s) (Svs.tk s t)
theorem Svs.len {H : Hp} : ∀ {vs : List V} {S : List SV}, Svs H vs S → vs.length = S.length
  | _, _, .nil => rfl
  | _, _, .cons _ t => congrArg (· + 1) (Svs.len t)
theorem Svs.app {H : Hp} : ∀ {vs vs' : List V} {S S' : List SV}, Svs H vs S → Svs H vs' S' → Svs H (vs ++ vs') (S ++ S')
  | _, _, _, _, .nil, h => h
  | _, _, _, _, .cons a t, h => .cons a (Svs.app t h)
theorem Svs.take {H : Hp} : ∀ (k : Nat) {vs : List V} {S : List SV}, Svs H vs S → Svs H (vs.take k) (S.take k)
  | 0, _, _, _ => .nil
  | _ + 1, _, _, .nil => .nil
  | k + 1, _, _, .cons a t => .cons a (Svs.take k t)
theorem Svs.drop {H : Hp} : ∀ (k : Nat) {vs : List V} {S : List SV}, Svs H vs S → Svs H (vs.drop k) (S.drop k)
  | 0, _, _, h => h
  | _ + 1, _, _, .nil => .nil
  | k + 1, _, _, .cons _ t => Svs.drop k t
theorem kit3 {K : PySem.W.Frag} {ty : Value} {b1 b2 b3 : Bool} (h1 : PySem.W.kitOne K ty (.type "bool") = some b1) (h2 : PySem.W.kitOne K ty (.type "str") = some b2) (h3 : PySem.W.kitOne K ty (.type "tuple") = some b3) : PySem.W.kitAny K ty [.type "bool", .type "str", .type "tuple"] = some (b1 || (b2 || b3)) := by
  unfold PySem.W.kitAny
  rw [h1]
  cases b1 with
  | true => rfl
  | false =>
    show PySem.W.kitAny K ty [.type "str", .type "tuple"] = _
    unfold PySem.W.kitAny
    rw [h2]
    cases b2 with
    | true => rfl
    | false =>
      show PySem.W.kitAny K ty [.type "tuple"] = _
      unfold PySem.W.kitAny
      rw [h3]
      cases b3 <;> rfl
/-- what isinstance tells of an item of the stack -/
theorem Sv.isi {K : PySem.W.Frag} {H : Hp} {v : V} {s : SV} (h : Sv H v s) : ∃ ty b, TyX K H v ty ∧ PySem.W.kitAny K ty [.type "bool", .type "str", .type "tuple"] = some b ∧ ((b = true ∧ numOf s = none) ∨ (b = false ∧ ((s = .n ∧ v = .non) ∨ ∃ i, s = .t (.lf (.i i)) ∧ v = .int i))) := by
  cases h with
  | w y => exact ⟨_, true, .base (.str y), kit3 (kit_ty (r := false) (by decide +kernel)) (kit_ty (r := true) (by decide +kernel)) (kit_ty (r := false) (by decide +kernel)), .inl ⟨rfl, rfl⟩⟩
  | n => exact ⟨_, false, .base .non, kit3 (kit_ty (r := false) (by decide +kernel)) (kit_ty (r := false) (by decide +kernel)) (kit_ty (r := false) (by decide +kernel)), .inr ⟨rfl, .inl ⟨rfl, rfl⟩⟩⟩
  | @t _ r hr =>
    cases r with
    | st y =>
      obtain ⟨rfl, _⟩ := hr.st_of
      exact ⟨_, true, .base (.str y), kit3 (kit_ty (r := false) (by decide +kernel)) (kit_ty (r := true) (by decide +kernel)) (kit_ty (r := false) (by decide +kernel)), .inl ⟨rfl, rfl⟩⟩
    | lf l =>
      obtain rfl := hr.lf_of
      cases l with
      | i n => exact ⟨_, false, .base (.int n), kit3 (kit_ty (r := false) (by decide +kernel)) (kit_ty (r := false) (by decide +kernel)) (kit_ty (r := false) (by decide +kernel)), .inr ⟨rfl, .inr ⟨n, rfl, rfl⟩⟩⟩
      | b n => exact ⟨_, true, .base (.bl n), kit3 (kit_ty (r := true) (by decide +kernel)) (kit_ty (r := false) (by decide +kernel)) (kit_ty (r := false) (by decide +kernel)), .inl ⟨rfl, rfl⟩⟩
    | nd n y o =>
      obtain ⟨a, vy, vo, rfl, g1, g2, g3⟩ := hr.nd_of
      exact ⟨_, true, .base (.tup g1), kit3 (kit_ty (r := false) (by decide +kernel)) (kit_ty (r := false) (by decide +kernel)) (kit_ty (r := true) (by decide +kernel)), .inl ⟨rfl, rfl⟩⟩
theorem plain_rd : ∀ r : RT, r.dd.plain = true
  | .lf (.i _) => rfl
  | .lf (.b _) => rfl
  | .st _ => rfl
  | .nd n y o => by
    show (true && (y.dd.plain && (o.dd.plain && true))) = true
    rw [plain_rd y, plain_rd o]
    rfl
theorem plain_dd : ∀ s : SV, (ddV s).plain = true
  | .w _ => rfl
  | .n => rfl
  | .t r => plain_rd r
theorem asRT_sv {H : Hp} {v : V} {s : SV} (h : Sv H v s) (o : okV s) (hn : isN s = false) : ∃ r, asRT s = some r ∧ Rv H v r := by
  cases h with
  | w y =>
    refine ⟨.st y, rfl, .st y ?_⟩
    unfold A7
    rcases o with rfl | rfl | rfl <;> decide +kernel
  | n => cases hn
  | t hr => exact ⟨_, rfl, hr⟩
theorem count2 (a b : SV) : (([ddV a, ddV b].countP fun y => PyData.eqv y .none : Nat)) = (if isN a = true then 1 else 0) + (if isN b = true then 1 else 0) := by
  rw [List.countP_cons, List.countP_cons, List.countP_nil, eqv_none, eqv_none]
  omega
theorem iteT'' {c A B : Prop} [Decidable c] (hc : c) (h : A) : if c then A else B := by rw [if_pos hc]; exact h
theorem six {H : Hp} {vs : List V} {S : List SV} (h : Svs H vs S) (l : vs.length = 6) : ∃ v0 v1 v2 v3 v4 v5 s0 s1 s2 s3 s4 s5, vs = [v0, v1, v2, v3, v4, v5] ∧ S = [s0, s1, s2, s3, s4, s5] ∧ Sv H v0 s0 ∧ Sv H v1 s1 ∧ Sv H v2 s2 ∧ Sv H v3 s3 ∧ Sv H v4 s4 ∧ Sv H v5 s5 := by
  match vs, S, h, l with
  | [_, _, _, _, _, _], _, .cons a0 (.cons a1 (.cons a2 (.cons a3 (.cons a4 (.cons a5 .nil))))), _ => exact ⟨_, _, _, _, _, _, _, _, _, _, _, _, rfl, rfl, a0, a1, a2, a3, a4, a5⟩
theorem Sv.dp {K : PySem.W.Frag} {H : Hp} {v : V} {s : SV} (h : Sv H v s) : Dp K H v (ddV s) := by
  cases h with
  | w y => exact .str y
  | n => exact .non
  | t h => exact h.dp
theorem leaf_sv {H : Hp} {w : Str} (h : ¬ (w = "(" ∨ w = "?" ∨ w = ":")) : Sv H (leafV w) (itemOf w) := by
  unfold itemOf leafV
  rw [if_neg h]
  cases leafT w with
  | none => exact .n
  | some l => exact .t (.lf l)
theorem run_take {ws : List Str} {i : Nat} {w : Str} (h : ws[i]? = some w) {S S0 : List SV} (e : runL S0 (ws.take i) = some S) : runL S0 (ws.take (i + 1)) = stepL S w := by
  have app : ∀ (a : List Str) (S0 S : List SV), runL S0 a = some S → runL S0 (a ++ [w]) = stepL S w := fun a => by
    induction a with
    | nil =>
      intro S0 S e
      cases e
      show (match stepL S0 w with | some S' => runL S' [] | none => none) = stepL S0 w
      cases stepL S0 w <;> rfl
    | cons b r ih =>
      intro S0 S e
      have e : (match stepL S0 b with | some S' => runL S' r | none => none) = some S := e
      show (match stepL S0 b with | some S' => runL S' (r ++ [w]) | none => none) = _
      cases hs : stepL S0 b with
      | none => rw [hs] at e; cases e
      | some S1 => rw [hs] at e; exact ih S1 S e
  have et : ws.take (i + 1) = ws.take i ++ [w] := by
    rw [List.take_succ, h]
    rfl
  rw [et]
  exact app _ _ _ e
theorem run_none {w : Str} : ∀ {ws : List Str} {i : Nat} {S S0 : List SV}, ws[i]? = some w → runL S0 (ws.take i) = some S → stepL S w = none → runL S0 ws = none
  | [], i, S, S0, h, _, _ => by cases h
  | b :: r, 0, S, S0, h, e, hs => by
    obtain rfl : b = w := Option.some.inj h
    obtain rfl : S0 = S := Option.some.inj e
    show (match stepL S0 b with | some S' => runL S' r | none => none) = none
    rw [hs]
  | b :: r, i + 1, S, S0, h, e, hs => by
    have e : (match stepL S0 b with | some S' => runL S' (r.take i) | none => none) = some S := e
    show (match stepL S0 b with | some S' => runL S' r | none => none) = none
    cases h1 : stepL S0 b with
    | none => rfl
    | some S1 =>
      rw [h1] at e
      exact run_none (ws := r) (i := i) h e hs
theorem open_a7 {x : Str} (h : A7 x) : A7 (Txt.replace x "(" "( ") := fun c hc => by
  rw [StrLaws.replace_list (by decide +kernel), show ("(" : Str).cps.toList = [40] from sg_open, show ("( " : Str).cps.toList = [40, 32] from sg_opb, repl_one] at hc
  obtain ⟨d, hd, hc⟩ := List.mem_flatMap.mp hc
  by_cases e : d = 40
  · rw [if_pos e] at hc
    have hc : c = 40 ∨ c = 32 := by simpa using hc
    omega
  · rw [if_neg e] at hc
    rw [List.mem_singleton.mp hc]
    exact h d hd
theorem words_a7 {x : Str} (h : A7 x) (hl : x.length ≤ 200000) {w : Str} (hw : w ∈ wordsL x) : w.length ≤ 10000000 ∧ A7 w := by
  obtain ⟨h1, h2, _⟩ := split_mem one_blank hw
  have e2 : (" )" : Str).length = 2 := by decide +kernel
  have e3 : ("( " : Str).length = 2 := by decide +kernel
  have l1 := TK.replace_len x "(" "( "
  have l2 := TK.replace_len (Txt.replace x "(" "( ") ")" " )"
  rw [e3] at l1
  rw [e2] at l2
  have l0 : (apartX x).length ≤ 2000000 := Nat.le_trans l2 (by omega)
  exact ⟨by omega, fun c hc => close_a7 (open_a7 h) c (h2 c hc)⟩
theorem by_rest2 {α β : Type} {T : α → β → Prop} {G : Prop} {C : α → β → Prop} (h : (∀ a b, C a b → T a b) → G) (k : ∀ a b, C a b → T a b) : G := h k
def lenQ (K : PySem.W.Frag) : List V → Hp → VK → Prop := fun xs H Q => ∃ p ys, xs = [.ref p] ∧ (SqL K H p ys ∨ SqT K H p ys) ∧ Q (.int (ys.length : Nat)) H
def ttRd8 (K : PySem.W.Frag) : TT := tTest (tOp rEq (tCB (lenQ K) (tCons (tVar 4) tNil)) (tC (.int 6)))
def teRd8 (K : PySem.W.Frag) : TE := tCB (rStrW K) (tCons (tOp (rIxL K) (tVar 4) (tVar 5)) tNil)
/-- the form a text writes, as the law reads it -/
def spRead8 : Sp := fun vs H Q _ => ∃ x : Str, vs = [.str x] ∧ x.length ≤ 200000 ∧ A7 x ∧ (wordsL x).length ≤ 2500 ∧ clW (wordsL x) ≤ 170 ∧ (lawT x = none → ∀ H', Same H H' → Q .non H') ∧ (∀ r v H', lawT x = some r → Same H H' → Rv H' v r → Q v H')
theorem blanks_eq (x : Str) : blanksOk x = true ↔ ¬ (("" : Str) ∈ wordsL x ∨ 10 ∈ sg x) := by
  unfold blanksOk
  rw [inV_str, Bool.and_eq_true, Bool.not_eq_true', Bool.not_eq_true', decide_eq_false_iff_not, decide_eq_false_iff_not, not_or]
  first | done | exact Iff.rfl
theorem law_none {x : Str} (h : blanksOk x = false) : lawT x = none := by
  have : ("" : Str) ∈ wordsL x ∨ 10 ∈ sg x := by
    refine Decidable.byContradiction fun z => ?_
    have := (blanks_eq x).mpr z
    rw [h] at this
    cases this
  unfold lawT
  rw [if_pos this]
theorem law_run {x : Str} (h : blanksOk x = true) : lawT x = match runL [] (wordsL x) with
    | some [.t r] => some r
    | _ => none := by
  unfold lawT
  refine (if_neg ((blanks_eq x).mp h)).trans ?_
  cases runL [] (wordsL x) <;> rfl
section
variable {P : Program} {w : World} {K : PySem.W.Frag} {mg : Str → Option Value} {base : Heap}
theorem ok_read8 {f : Addr} {fd : FuncData} (F : Fun K "_law_read" "_law_read" sRead8 f fd) (T : GloP K mg) (W : GloW mg) (zs : mg "str" = none) (dt : Df P w K mg base "_law_tokens" 1 ["_law_text_here"] spTok8) (dl : Df P w K mg base "_law_leaf_of" 2 ["_law_word"] spLeaf8) : FnG P w K mg base CX0 3 f fd ["_law_text_here"] spRead8 := by
  refine okG F scRead8 (k := 2) (fun vs H Q E h => ?_) (fun cdv A outer s H vs Q E hr gd h => ?_)
  · obtain ⟨x, rfl, _⟩ := h
    rfl
  · obtain ⟨x, rfl, hl, h7, hw, hc, q1, q2⟩ := h
    have T := W
    refine ⟨_, (pss_cons (ps_par (i := 1) (j := 2) (by rfl) scRead8.nd rfl rfl (by decide) rfl rfl (pa_cons (pe_df (E := E0) dt (hr.mono (by decide)) (by rfl) (pa_cons (pv 0) pa_nil)) (pa_cons (pe_lst pa_nil) pa_nil)) (by rfl))
      (pss_cons (ps_for PassesOwn.never rfl (pi_list (pe_orT (pv 1) (pe_one (pe_lst pa_nil)))) (pg_name (i := 3) scRead8.nd rfl (Or.inl rfl)) (pss_cons (ps_if (pt_cmpR op_ne (pv 3) pe_str (nomark _)) (pss_cons (ps_expr (pe_bm PySem.F.plainAttrs_list PySem.F.slot_list_append PySem.F.type_list_append mt_append (pv 2) (pa_cons (pe_ifExp (pt_cmpR op_in_seq (pv 3) (pe_tup (pa_cons pe_str (pa_cons pe_str (pa_cons pe_str pa_nil)))) (by rfl)) (pv 3) (pe_df (E := E0) dl (hr.mono (by decide)) (by rfl) (pa_cons (pv 3) pa_nil))) pa_nil)))
      (pss_one ps_continue)) pss_nil)
      (pss_cons (ps_set (i := 4) scRead8.nd rfl (Or.inr rfl) (pe_ifExp (pt_cmpR op_gt (pe_callB call_len_seq (by rfl) T.len PySem.boot_len (pa_cons (pv 2) pa_nil)) pe_int (nomark _)) (pe_slice sl_list (pv 2) (po_some (pe_op op_sub (pe_callB call_len_seq (by rfl) T.len PySem.boot_len (pa_cons (pv 2) pa_nil)) pe_int)) po_none) (pe_lst pa_nil)))
      (pss_cons (ps_if (pt_cmpR (op_neD hr.units) (pe_lc (own := [("_law_at", 5)]) (g := gName 5) (te := teRd8 K) (tt := ttRd8 K) (by rfl) scRead8.nd (pi_tup (pe_tup (pa_cons pe_int (pa_cons pe_int (pa_cons pe_int pa_nil))))) (blkOk_by (own := [("_law_at", 5)]) (N := ["_law_text_here", "_law_words", "_law_made", "_law_word", "_law_row_here", "_law_at", "_law_number", "_law_yes", "_law_no"]) (sc := defScope sRead8) (by decide +kernel)) (fun _ _ _ _ _ => (pg_name (i := 5) scRead8.nd rfl (Or.inl rfl))) (fun _ _ _ _ _ => (pts_one (pt_cmpR op_eq (pe_callB call_len_seq (by rfl) T.len PySem.boot_len (pa_cons (pv 4) pa_nil)) pe_int (nomark _)))) (fun _ _ _ _ _ => (pe_callTy (call_strW gd hr.units2) (by rfl) zs (by decide +kernel) (pa_cons (pe_ix ix_list (pv 4) (pv 5) (fun _ _ => rfl)) pa_nil)))) (pe_lst (pa_cons pe_str (pa_cons pe_str (pa_cons pe_str pa_nil)))) (nomark _)) (pss_one (ps_ret pe_non)) pss_nil)
      (pss_cons (ps_par3 (i := 6) (j := 7) (l := 8) (by rfl) scRead8.nd rfl rfl rfl (by decide) (by decide) (by decide) rfl rfl rfl (pa_cons (pe_ix ix_list (pv 4) pe_int (fun _ _ => rfl)) (pa_cons (pe_ix ix_list (pv 4) pe_int (fun _ _ => rfl)) (pa_cons (pe_ix ix_list (pv 4) pe_int (fun _ _ => rfl)) pa_nil))) (by rfl))
      (pss_cons (ps_if (PW.pt (pw_or (pt_val (pe_callB (id := "isinstance") (show CallR _ (.builtin "isinstance") (rIsiT K) from call_isiT) (by rfl) T.isinstance (by decide +kernel) (pa_cons (pv 6) (pa_cons (pe_tup (pa_cons (pe_bltn (v := .ty "bool") (by rfl) T.bool (by decide +kernel) rfl) (pa_cons (pe_bltn (v := .ty "str") (by rfl) T.str (by decide +kernel) rfl) (pa_cons (pe_bltn (v := .ty "tuple") (by rfl) T.tuple (by decide +kernel) rfl) pa_nil)))) pa_nil)))) (pw_or (pt_cmp (pc_isN (pv 6)) rfl) (pw_or (pt_cmpR op_lt (pv 6) pe_int (nomark _)) (pw_or1 (pt_cmpR op_gt (pe_bm PySem.F.plainAttrs_list PySem.F.slot_list_count PySem.F.type_list_count (mt_countN (Nat.lt_of_le_of_lt (Nat.add_le_add_left (show 1 ≤ 195 by decide) _) hr.units2)) (pe_lst (pa_cons (pv 7) (pa_cons (pv 8) pa_nil))) (pa_cons pe_non pa_nil)) pe_int (nomark _))))))) (pss_one (ps_ret pe_non)) pss_nil)
      (pss_one (ps_set (i := 2) scRead8.nd rfl (Or.inl rfl) (pe_op op_cat (pe_slice sl_list (pv 2) po_none (po_some (pe_op op_sub (pe_callB call_len_seq (by rfl) T.len PySem.boot_len (pa_cons (pv 2) pa_nil)) pe_int))) (pe_lst (pa_cons (pe_tup (pa_cons (pv 6) (pa_cons (pv 7) (pa_cons (pv 8) pa_nil)))) pa_nil)))))))))))
      (pss_cons (ps_if (PW.pt (pw_or (pt_cmp (pc_isN (pv 1)) rfl) (pw_or (pt_cmpR op_ne (pe_callB call_len_seq (by rfl) T.len PySem.boot_len (pa_cons (pv 2) pa_nil)) pe_int (nomark _)) (pw_or (pt_cmp (pc_isN (pe_ix ix_list (pv 2) pe_int (fun _ _ => rfl))) rfl) (pw_or1 (pt_val (pe_callB (id := "isinstance") (show CallR _ (.builtin "isinstance") (rIsi K) from call_isi) (by rfl) T.isinstance (by decide +kernel) (pa_cons (pe_ix ix_list (pv 2) pe_int (fun _ _ => rfl)) (pa_cons (pe_bltn (v := .ty "str") (by rfl) T.str (by decide +kernel) rfl) pa_nil))))))))) (pss_one (ps_ret pe_non)) pss_nil)
      (pss_one (ps_ret (pe_ix ix_list (pv 2) pe_int (fun _ _ => rfl))))))), ?_⟩
    refine ⟨_, rfl, x, rfl, hl, h7, ?_, ?_⟩
    · intro hb H1 s1
      have q1 := q1 (law_none hb)
      refine ⟨by show 0 ≤ sizeLine; decide, fun M nM => ?_⟩
      have s2 := same_upd (o := .lst []) nM
      have sX : Same H (upd H1 M (.lst [])) := fun b ob e => s2 _ _ (s1 _ _ e)
      generalize upd H1 M (.lst []) = H2 at sX ⊢
      refine ⟨_, _, rfl, _, rfl, false, rfl, (by show 0 ≤ sizeLine; decide), fun N nN => ?_⟩
      have s3 := same_upd (o := .lst []) nN
      have eN : (upd H2 N (.lst [])) N = some (.lst []) := upd_same
      have sY : Same H (upd H2 N (.lst [])) := fun b ob e => s3 _ _ (sX _ _ e)
      refine ⟨N, rfl, ⟨[], SqL.of eN⟩, ?_⟩
      generalize upd H2 N (.lst []) = H3 at sY eN ⊢
      refine for_list (xs := []) (fun i σ H' => σ = [some (.str x), some .non, some (.ref M), none, none, none, none, none, none] ∧ Same H H' ∧ H' N = some (.lst [])) ⟨rfl, sY, eN⟩ ?_ ?_ ?_
      · rintro i σ H' _ ⟨_, _, e⟩
        exact SqL.of e
      · intro i y σ H' hy
        exact nomatch hy
      · rintro σ H' ⟨rfl, sZ, _⟩
        exact ⟨_, rfl, true, rfl, q1 _ sZ⟩
    · intro hb p H1 np s1 e1
      have hlaw := law_run hb
      refine ⟨by show 0 ≤ sizeLine; decide, fun M nM => ?_⟩
      have s2 := same_upd (o := .lst []) nM
      have sX : Same H (upd H1 M (.lst [])) := fun b ob e => s2 _ _ (s1 _ _ e)
      have eM : (upd H1 M (.lst [])) M = some (.lst []) := upd_same
      have eP := s2 _ _ e1
      have nMH : H M = none := by
        cases hz : H M with
        | none => rfl
        | some ob => rw [s1 _ _ hz] at nM; cases nM
      have nMp : M ≠ p := fun z => by rw [z, e1] at nM; cases nM
      have wne : (true : Bool) = !((wordsL x).map V.str).isEmpty := by
        have : wordsL x ≠ [] := split_ne one_blank _
        cases hw : wordsL x with
        | nil => exact absurd hw this
        | cons _ _ => rfl
      generalize upd H1 M (.lst []) = H2 at sX eM eP ⊢
      refine ⟨_, _, rfl, _, rfl, true, .inl ⟨_, SqL.of eP, wne⟩, p, rfl, ⟨_, SqL.of eP⟩, ?_⟩
      refine for_list (xs := (wordsL x).map V.str) (fun i σ H' => ∃ (M : Addr) (vs : List V) (S : List SV) (z1 z2 z3 z4 z5 z6 : Option V), σ = [some (.str x), some (.ref p), some (.ref M), z1, z2, z3, z4, z5, z6] ∧ Same H H' ∧ H' p = some (.lst ((wordsL x).map V.str)) ∧ H M = none ∧ M ≠ p ∧ H' M = some (.lst vs) ∧ Svs H' vs S ∧ runL [] ((wordsL x).take i) = some S) ⟨M, [], [], _, _, _, _, _, _, rfl, sX, eP, nMH, nMp, eM, .nil, rfl⟩ ?_ ?_ ?_
      · rintro i σ H' _ ⟨_, _, _, _, _, _, _, _, _, _, _, e, _⟩
        exact SqL.of e
      · rintro i y σ H' hy ⟨M, vs, S, z1, z2, z3, z4, z5, z6, rfl, s5, e5, n5, np5, eM5, hS, hrun⟩
        rw [List.getElem?_map] at hy
        cases hwi : (wordsL x)[i]? with
        | none => rw [hwi] at hy; cases hy
        | some wd =>
        rw [hwi] at hy
        cases hy
        have st := run_ok (k := 0) (c := 0) ⟨fun _ h => absurd h (by simp), Nat.le_refl _⟩ hrun
        have ht := run_take hwi hrun
        refine ⟨_, rfl, rfl, _, rfl, ?_⟩
        refine ite2 (fun hw => ?_) (fun hw => ?_)
        · have hne : wd ≠ ")" := fun z => by
            rw [z] at hw
            exact absurd hw (by decide +kernel)
          obtain ⟨wl, wa⟩ := words_a7 h7 hl (List.mem_of_getElem? hwi)
          rw [stepL_item hne] at ht
          have hlen := st.len
          have hwl : vs.length ≤ 2500 := by
            rw [hS.len]
            refine Nat.le_trans hlen ?_
            rw [List.length_take]
            omega
          refine ⟨_, rfl, .inl ⟨rfl, _, SqL.of eM5⟩, _, rfl, (by show 3 ≤ sizeLine; decide), fun t nt => ?_⟩
          have s6 := same_upd (o := .tup [V.str "(", V.str "?", V.str ":"]) nt
          have eT : (upd H' t (.tup [V.str "(", V.str "?", V.str ":"])) t = some (.tup [V.str "(", V.str "?", V.str ":"]) := upd_same
          refine ⟨t, _, rfl, .inr (SqT.of eT), rfl, rfl, _, rfl, ?_⟩
          generalize upd H' t (.tup [V.str "(", V.str "?", V.str ":"]) = H6 at s6 ⊢
          have ei : inV (.str wd) [V.str "(", V.str "?", V.str ":"] = decide (wd = "(" ∨ wd = "?" ∨ wd = ":") := by
            rw [show [V.str "(", V.str "?", V.str ":"] = [("(" : Str), "?", ":"].map V.str from rfl, inV_str]
            simp
          have push : ∀ (y : V) (H7 : Hp), Same H' H7 → Sv H7 y (itemOf wd) → Same H (upd H7 M (.lst (vs ++ [y]))) ∧ (upd H7 M (.lst (vs ++ [y]))) p = some (.lst ((wordsL x).map V.str)) ∧ Svs (upd H7 M (.lst (vs ++ [y]))) (vs ++ [y]) (S ++ [itemOf wd]) := fun y H7 s7 hy => by
            have kt : KtT H' (upd H7 M (.lst (vs ++ [y]))) := (KtT.of s7).upd (s7 _ _ eM5)
            have kt7 : KtT H7 (upd H7 M (.lst (vs ++ [y]))) := KtT.upd (fun _ _ e => e) (s7 _ _ eM5)
            refine ⟨fun b ob e => ?_, ?_, (hS.tk kt).app (.cons (hy.tk kt7) .nil)⟩
            · rw [upd_ne (fun z => by rw [z, n5] at e; cases e)]
              exact s7 _ _ (s5 _ _ e)
            · rw [upd_ne (fun z => np5 z.symm)]
              exact s7 _ _ e5
          have lenM : vs.length < sizeLine := by rw [sizeLine_eq]; omega
          show (if inV (.str wd) [V.str "(", V.str "?", V.str ":"] = true then _ else _)
          rw [ei]
          by_cases hin : wd = "(" ∨ wd = "?" ∨ wd = ":"
          · rw [decide_eq_true hin]
            have hy : Sv H6 (.str wd) (itemOf wd) := by
              unfold itemOf
              rw [if_pos hin]
              exact .w wd
            obtain ⟨a1, a2, a3⟩ := push _ H6 s6 hy
            exact ⟨_, rfl, M, vs, .str wd, rfl, rfl, s6 _ _ eM5, lenM, M, _, _, _, _, _, _, _, _, rfl, a1, a2, n5, np5, upd_same, a3, ht⟩
          · rw [decide_eq_false hin]
            refine ⟨_, rfl, wd, rfl, wl, wa, fun H7 s7 => ?_⟩
            have s8 : Same H' H7 := fun b ob e => s7 _ _ (s6 _ _ e)
            obtain ⟨a1, a2, a3⟩ := push _ H7 s8 (leaf_sv hin)
            exact ⟨M, vs, leafV wd, rfl, rfl, s8 _ _ eM5, lenM, M, _, _, _, _, _, _, _, _, rfl, a1, a2, n5, np5, upd_same, a3, ht⟩
        · have heq : wd = ")" := by
            refine Decidable.byContradiction fun z => hw ?_
            show (!decide (V.str wd = V.str ")")) = true
            rw [decide_eq_false fun e => z (V.str.inj e)]
            rfl
          subst heq
          apply by_rest2 (C := fun R H7 => Same H' H7 ∧ H' R = none ∧ ∃ rvs, H7 R = some (.lst rvs) ∧ ((6 ≤ vs.length ∧ rvs = vs.drop (vs.length - 6)) ∨ (vs.length < 6 ∧ rvs = [])))
          · intro kk
            refine ⟨_, rfl, M, vs, rfl, .inl (SqL.of eM5), _, _, rfl, rfl, _, rfl, ?_⟩
            refine ite2 (fun hb => ?_) (fun hb => ?_)
            · have h6 : 6 ≤ vs.length := by
                have := of_decide_eq_true hb
                omega
              refine ⟨_, rfl, _, rfl, M, vs, rfl, .inl (SqL.of eM5), _, _, rfl, rfl, _, rfl, M, vs, rfl, SqL.of eM5, fun R nR => ?_⟩
              rw [show ((vs.length : Nat) : Int) - 6 = ((vs.length - 6 : Nat) : Int) from by omega, cut_dropV]
              have s7 := same_upd (o := .lst (vs.drop (vs.length - 6))) nR
              have eR : (upd H' R (.lst (vs.drop (vs.length - 6)))) R = some (.lst (vs.drop (vs.length - 6))) := upd_same
              generalize upd H' R (.lst (vs.drop (vs.length - 6))) = H7 at s7 eR ⊢
              exact kk R H7 ⟨s7, nR, _, eR, .inl ⟨h6, rfl⟩⟩
            · have h6 : vs.length < 6 := by
                have : ¬ (5 : Int) < ((vs.length : Nat) : Int) := fun z => hb (decide_eq_true z)
                omega
              refine ⟨by show 0 ≤ sizeLine; decide, fun R nR => ?_⟩
              have s7 := same_upd (o := .lst []) nR
              have eR : (upd H' R (.lst [])) R = some (.lst []) := upd_same
              generalize upd H' R (.lst []) = H7 at s7 eR ⊢
              exact kk R H7 ⟨s7, nR, _, eR, .inr ⟨h6, rfl⟩⟩
          · rintro R H7 ⟨s7, nR, rvs, eR, hrv⟩
            refine ⟨(by show 3 ≤ sizeLine; decide), fun t nt => ?_⟩
            have s8 := same_upd (o := .tup [V.int 0, V.int 2, V.int 4]) nt
            have eT : (upd H7 t (.tup [V.int 0, V.int 2, V.int 4])) t = some (.tup [V.int 0, V.int 2, V.int 4]) := upd_same
            have eR8 := s8 _ _ eR
            generalize upd H7 t (.tup [V.int 0, V.int 2, V.int 4]) = H8 at s8 eT eR8 ⊢
            have sH : Same H H8 := fun b ob e => s8 _ _ (s7 _ _ (s5 _ _ e))
            have nn : stepL S ")" = none → ∀ H9, Same H8 H9 → Q .non H9 := fun hz H9 s9 => by
              refine q1 ?_ _ fun b ob e => s9 _ _ (sH _ _ e)
              rw [hlaw, run_none hwi hrun hz]
            have tl : ((wordsL x).take i).length ≤ 2500 := by
              rw [List.length_take]
              omega
            have tc := clW_take (wordsL x) i
            have hvl := hS.len
            rcases hrv with ⟨h6, rfl⟩ | ⟨h6, rfl⟩
            · obtain ⟨v0, v1, v2, v3, v4, v5, t0, t1, t2, t3, t4, t5, ev, et, g0, g1, g2, g3, g4, g5⟩ := six (hS.drop (vs.length - 6)) (by rw [List.length_drop]; omega)
              rw [hvl] at et
              rw [ev] at eR8
              have okm : ∀ s ∈ [t0, t1, t2, t3, t4, t5], okV s ∧ dpV s ≤ 170 ∧ wtV s ≤ 2500 := fun s hs => by
                rw [← et] at hs
                have hs := List.mem_of_mem_drop hs
                have a1 := st.ok s hs
                have a2 := st.wt1 hs
                exact ⟨a1.1, by omega, by omega⟩
              have ktt : KtT H' H8 := KtT.of fun b ob e => s8 _ _ (s7 _ _ e)
              obtain ⟨o0, d0, w0⟩ := okm t0 (by simp)
              obtain ⟨o2, d2, w2⟩ := okm t2 (by simp)
              obtain ⟨o4, d4, w4⟩ := okm t4 (by simp)
              obtain ⟨a0, b0, c0, f0, l0⟩ := ddV_ok o0 d0 w0
              obtain ⟨a2, b2, c2, f2, l2⟩ := ddV_ok o2 d2 w2
              obtain ⟨a4, b4, c4, f4, l4⟩ := ddV_ok o4 d4 w4
              have hg : ∀ {v : V} {s : SV} {H9 : Hp}, Sv H' v s → Same H8 H9 → Sv H9 v s := fun h s9 => (h.tk ktt).tk (KtT.of s9)
              refine ⟨t, rfl, ⟨_, SqT.of eT⟩, fun D nD => lc_tup (xs := [V.int 0, V.int 2, V.int 4]) (fun i H9 => Same H8 H9 ∧ H9 D = some (.lst (([strV t0, strV t2, strV t4].take i).map V.str))) ⟨same_upd nD, upd_same⟩ ?_ ?_ ?_⟩
              · rintro i H9 _ ⟨s9, _⟩
                exact SqT.of (s9 _ _ eT)
              · rintro i y H9 hy ⟨s9, e9⟩
                have eR9 := s9 _ _ eR8
                have fin : ∀ (z : Str) (ks : List Str), ks.length ≤ 3 → Same H8 (upd H9 D (.lst (ks.map V.str ++ [V.str z]))) ∧ (upd H9 D (.lst (ks.map V.str ++ [V.str z]))) D = some (.lst ((ks ++ [z]).map V.str)) := fun z ks _ => by
                  refine ⟨fun b ob e => ?_, by rw [upd_same, List.map_append]; rfl⟩
                  rw [upd_ne (fun z => by rw [z, nD] at e; cases e)]
                  exact s9 _ _ e
                match i, hy with
                | 0, hy =>
                  cases hy
                  obtain ⟨x1, x2⟩ := fin (strV t0) [] (by decide)
                  exact ⟨rfl, _, rfl, R, _, rfl, .inl (SqL.of eR9), rfl, _, rfl, iteT ⟨_, rfl, _, rfl, R, _, _, _, rfl, rfl, SqL.of eR9, rfl, v0, ddV t0, rfl, (hg g0 s9).dp, a0, b0, c0, f0, _, e9, by show 0 < sizeLine; decide, x1, x2⟩⟩
                | 1, hy =>
                  cases hy
                  obtain ⟨x1, x2⟩ := fin (strV t2) [strV t0] (by show 1 ≤ 3; decide)
                  exact ⟨rfl, _, rfl, R, _, rfl, .inl (SqL.of eR9), rfl, _, rfl, iteT ⟨_, rfl, _, rfl, R, _, _, _, rfl, rfl, SqL.of eR9, rfl, v2, ddV t2, rfl, (hg g2 s9).dp, a2, b2, c2, f2, _, e9, by show 1 < sizeLine; decide, x1, x2⟩⟩
                | 2, hy =>
                  cases hy
                  obtain ⟨x1, x2⟩ := fin (strV t4) [strV t0, strV t2] (by show 2 ≤ 3; decide)
                  exact ⟨rfl, _, rfl, R, _, rfl, .inl (SqL.of eR9), rfl, _, rfl, iteT ⟨_, rfl, _, rfl, R, _, _, _, rfl, rfl, SqL.of eR9, rfl, v4, ddV t4, rfl, (hg g4 s9).dp, a4, b4, c4, f4, _, e9, by show 2 < sizeLine; decide, x1, x2⟩⟩
                | _ + 3, hy => exact nomatch hy
              · rintro H9 ⟨s9, e9⟩
                refine ⟨(by show 3 ≤ sizeLine; decide), fun Z nZ => ?_⟩
                have s10 := same_upd (o := .lst [V.str "(", V.str "?", V.str ":"]) nZ
                have eZ : (upd H9 Z (.lst [V.str "(", V.str "?", V.str ":"])) Z = some (.lst [V.str "(", V.str "?", V.str ":"]) := upd_same
                have e10 := s10 _ _ e9
                have sA : Same H8 (upd H9 Z (.lst [V.str "(", V.str "?", V.str ":"])) := fun b ob e => s10 _ _ (s9 _ _ e)
                generalize upd H9 Z (.lst [V.str "(", V.str "?", V.str ":"]) = HA at s10 eZ e10 sA ⊢
                refine ⟨_, _, .lst (SqL.of e10) (.cons (.str _) (.cons (.str _) (.cons (.str _) .nil))), .lst (SqL.of eZ) (.cons (.str _) (.cons (.str _) (.cons (.str _) .nil))), shaped3 (strV_lay o0) (strV_lay o2) (strV_lay o4), shapedS, _, rfl, ?_⟩
                rw [eqv3, strV_is o0 (.inl rfl), strV_is o2 (.inr (.inl rfl)), strV_is o4 (.inr (.inr rfl))]
                have sHA : Same H HA := fun b ob e => sA _ _ (sH _ _ e)
                by_cases hsg : isW "(" t0 = true ∧ isW "?" t2 = true ∧ isW ":" t4 = true
                rotate_left
                · refine iteT'' (by
                    rw [Bool.not_eq_true', Bool.and_eq_false_iff, Bool.and_eq_false_iff]
                    refine Decidable.byContradiction fun z => hsg ?_
                    rw [not_or, not_or, Bool.not_eq_false, Bool.not_eq_false, Bool.not_eq_false] at z
                    exact z) ?_
                  exact nn (step_none (by rw [et]; exact fold_signs hsg)) _ sA
                rw [hsg.1, hsg.2.1, hsg.2.2]
                refine iteF ?_
                have fa := fold_at (b := t1) (d := t3) (f := t5) hsg
                rw [← et] at fa
                have eRA := sA _ _ eR8
                refine ⟨_, rfl, R, _, _, _, rfl, rfl, SqL.of eRA, rfl, _, rfl, R, _, _, _, rfl, rfl, SqL.of eRA, rfl, _, rfl, R, _, _, _, rfl, rfl, SqL.of eRA, rfl, ?_⟩
                refine ⟨_, _, _, rfl, ?_⟩
                have g1A := hg g1 sA
                have g3A := hg g3 sA
                have g5A := hg g5 sA
                refine ⟨_, rfl, (by show 3 ≤ sizeLine; decide), fun tp ntp => ?_⟩
                have sB0 := same_upd (o := .tup [V.ty "bool", V.ty "str", V.ty "tuple"]) ntp
                have eTp : (upd HA tp (.tup [V.ty "bool", V.ty "str", V.ty "tuple"])) tp = some (.tup [V.ty "bool", V.ty "str", V.ty "tuple"]) := upd_same
                have sB : Same H8 (upd HA tp (.tup [V.ty "bool", V.ty "str", V.ty "tuple"])) := fun b ob e => sB0 _ _ (sA _ _ e)
                obtain ⟨ty, bb, y1, y2, y3⟩ := (hg g1 sB).isi (K := K)
                refine ⟨v1, tp, _, ty, _, bb, rfl, eTp, .cons (.ty _) (.cons (.ty _) (.cons (.ty _) .nil)), y1, y2, _, rfl, ?_⟩
                rcases y3 with ⟨rfl, hno⟩ | ⟨rfl, y3⟩
                · exact nn (step_none (by rw [fa, hno])) _ sB
                generalize upd HA tp (.tup [V.ty "bool", V.ty "str", V.ty "tuple"]) = HB at sB eTp sB0 y1
                rcases y3 with ⟨rfl, rfl⟩ | ⟨i1, rfl, rfl⟩
                · exact ⟨_, rfl, _, rfl, nn (step_none (by rw [fa]; rfl)) _ sB⟩
                refine ⟨_, rfl, _, rfl, _, rfl, _, _, rfl, rfl, _, rfl, ?_⟩
                by_cases h1 : i1 < 1
                · rw [decide_eq_true h1]
                  refine nn (step_none ?_) _ sB
                  rw [fa, show numOf (.t (.lf (.i i1))) = none from if_neg (by omega)]
                rw [decide_eq_false h1]
                have hnum : numOf (.t (.lf (.i i1))) = some i1 := if_pos (by omega)
                rw [hnum] at fa
                refine ⟨_, rfl, _, rfl, (by show 2 ≤ sizeLine; decide), fun L2 nL2 => ?_⟩
                have sC0 := same_upd (o := .lst [v3, v5]) nL2
                have eL2 : (upd HB L2 (.lst [v3, v5])) L2 = some (.lst [v3, v5]) := upd_same
                have sC : Same H8 (upd HB L2 (.lst [v3, v5])) := fun b ob e => sC0 _ _ (sB _ _ e)
                refine ⟨.inl ⟨rfl, _, SqL.of eL2⟩, ?_⟩
                generalize upd HB L2 (.lst [v3, v5]) = HC at sC0 eL2 sC ⊢
                have g3C := hg g3 sC
                have g5C := hg g5 sC
                refine ⟨L2, _, [ddV t3, ddV t5], rfl, rfl, SqL.of eL2, .cons g3C.dp (.cons g5C.dp .nil), by simp only [PyData.plainAll, plain_dd, Bool.and_self], ?_⟩
                rw [count2]
                refine ⟨_, _, rfl, rfl, _, rfl, ?_⟩
                by_cases hnn : isN t3 = false ∧ isN t5 = false
                rotate_left
                · have hpos : (0 : Int) < (((if isN t3 = true then 1 else 0) + (if isN t5 = true then 1 else 0) : Nat) : Int) := by
                    cases e3 : isN t3 <;> cases e5 : isN t5
                    · exact absurd ⟨e3, e5⟩ hnn
                    · decide
                    · decide
                    · decide
                  rw [decide_eq_true hpos]
                  refine nn (step_none ?_) _ sC
                  rw [fa]
                  cases e3 : asRT t3 with
                  | none => rfl
                  | some r3 =>
                    cases e5 : asRT t5 with
                    | none => rfl
                    | some r5 =>
                      refine absurd ⟨?_, ?_⟩ hnn
                      · cases h : isN t3 with
                        | false => rfl
                        | true => rw [asRT_none.mpr h] at e3; cases e3
                      · cases h : isN t5 with
                        | false => rfl
                        | true => rw [asRT_none.mpr h] at e5; cases e5
                rw [hnn.1, hnn.2]
                obtain ⟨r3, a3, rv3⟩ := asRT_sv g3C (okm t3 (by simp)).1 hnn.1
                obtain ⟨r5, a5, rv5⟩ := asRT_sv g5C (okm t5 (by simp)).1 hnn.2
                rw [a3, a5] at fa
                have eM8 : H8 M = some (.lst vs) := s8 _ _ (s7 _ _ eM5)
                have eMC := sC _ _ eM8
                refine ⟨_, rfl, _, rfl, M, vs, rfl, .inl (SqL.of eMC), _, _, rfl, rfl, _, rfl, M, vs, rfl, SqL.of eMC, fun R2 nR2 => ?_⟩
                rw [show ((vs.length : Nat) : Int) - 6 = ((vs.length - 6 : Nat) : Int) from by omega, cut_takeV]
                have sD0 := same_upd (o := .lst (vs.take (vs.length - 6))) nR2
                have eR2 : (upd HC R2 (.lst (vs.take (vs.length - 6)))) R2 = some (.lst (vs.take (vs.length - 6))) := upd_same
                refine ⟨_, rfl, _, rfl, _, rfl, (by show 3 ≤ sizeLine; decide), fun t9 nt9 => ?_⟩
                generalize upd HC R2 (.lst (vs.take (vs.length - 6))) = HD at sD0 eR2 nt9 ⊢
                have sE0 := same_upd (o := .tup [V.int i1, v3, v5]) nt9
                have et9 : (upd HD t9 (.tup [V.int i1, v3, v5])) t9 = some (.tup [V.int i1, v3, v5]) := upd_same
                refine ⟨(by show 1 ≤ sizeLine; decide), fun Z2 nZ2 => ?_⟩
                generalize upd HD t9 (.tup [V.int i1, v3, v5]) = HE at sE0 et9 nZ2 ⊢
                have sF0 := same_upd (o := .lst [V.ref t9]) nZ2
                have eZ2 : (upd HE Z2 (.lst [V.ref t9])) Z2 = some (.lst [V.ref t9]) := upd_same
                have hvs : vs.length ≤ 2500 := by
                  have := st.len
                  omega
                refine ⟨R2, Z2, _, _, rfl, rfl, sF0 _ _ (sE0 _ _ eR2), eZ2, ?_, fun L nL => ?_⟩
                · rw [List.length_take, sizeLine_eq]
                  show _ + 1 ≤ _
                  omega
                generalize upd HE Z2 (.lst [V.ref t9]) = HF at sF0 eZ2 nL ⊢
                have sG0 := same_upd (o := .lst (vs.take (vs.length - 6) ++ [V.ref t9])) nL
                have sCG : Same HC (upd HF L (.lst (vs.take (vs.length - 6) ++ [V.ref t9]))) := fun b ob e => sG0 _ _ (sF0 _ _ (sE0 _ _ (sD0 _ _ e)))
                have s8G : Same H8 (upd HF L (.lst (vs.take (vs.length - 6) ++ [V.ref t9]))) := fun b ob e => sCG _ _ (sC _ _ e)
                have et9' := sG0 _ _ (sF0 _ _ et9)
                have eL : (upd HF L (.lst (vs.take (vs.length - 6) ++ [V.ref t9]))) L = some (.lst (vs.take (vs.length - 6) ++ [V.ref t9])) := upd_same
                have nL8 : H8 L = none := by
                  cases hz : H8 L with
                  | none => rfl
                  | some ob => rw [sF0 _ _ (sE0 _ _ (sD0 _ _ (sC _ _ hz)))] at nL; cases nL
                generalize upd HF L (.lst (vs.take (vs.length - 6) ++ [V.ref t9])) = HG at sCG s8G et9' eL ⊢
                have p8 := s8 _ _ (s7 _ _ e5)
                refine ⟨L, _, S.take (S.length - 6) ++ [.t (.nd i1 r3 r5)], _, _, _, _, _, _, rfl, fun b ob e => s8G _ _ (sH _ _ e), s8G _ _ p8, ?_, (fun z => by rw [z, p8] at nL8; cases nL8), eL, ?_, ?_⟩
                · cases hz : H L with
                  | none => rfl
                  | some ob => rw [sH _ _ hz] at nL8; cases nL8
                · rw [← hvl]
                  exact Svs.app ((hS.take _).tk ((KtT.of fun b ob e => s8G _ _ (s8 _ _ (s7 _ _ e))))) (.cons (.t (.nd et9' (rv3.same sCG) (rv5.same sCG))) .nil)
                · rw [ht]
                  exact step_some fa
            · refine ⟨t, rfl, ⟨_, SqT.of eT⟩, fun D nD => lc_tup (xs := [V.int 0, V.int 2, V.int 4]) (fun i H9 => Same H8 H9 ∧ H9 D = some (.lst [])) ⟨same_upd nD, upd_same⟩ ?_ ?_ ?_⟩
              · rintro i H9 _ ⟨s9, _⟩
                exact SqT.of (s9 _ _ eT)
              · rintro i y H9 hy ⟨s9, e9⟩
                exact ⟨rfl, _, rfl, R, _, rfl, .inl (SqL.of (s9 _ _ eR8)), rfl, _, rfl, iteF ⟨s9, e9⟩⟩
              · rintro H9 ⟨s9, e9⟩
                refine ⟨(by show 3 ≤ sizeLine; decide), fun Z nZ => ?_⟩
                have s10 := same_upd (o := .lst [V.str "(", V.str "?", V.str ":"]) nZ
                have eZ : (upd H9 Z (.lst [V.str "(", V.str "?", V.str ":"])) Z = some (.lst [V.str "(", V.str "?", V.str ":"]) := upd_same
                have e10 := s10 _ _ e9
                have sA : Same H8 (upd H9 Z (.lst [V.str "(", V.str "?", V.str ":"])) := fun b ob e => s10 _ _ (s9 _ _ e)
                generalize upd H9 Z (.lst [V.str "(", V.str "?", V.str ":"]) = HA at s10 eZ e10 sA ⊢
                refine ⟨_, _, .lst (SqL.of e10) .nil, .lst (SqL.of eZ) (.cons (.str _) (.cons (.str _) (.cons (.str _) .nil))), rfl, shapedS, _, rfl, ?_⟩
                refine iteT ?_
                exact nn (fold_short (by omega)) _ sA
      · rintro σ H' ⟨M, vs, S, z1, z2, z3, z4, z5, z6, rfl, s5, e5, n5, np5, eM5, hS, hrun⟩
        rw [List.length_map, List.take_length] at hrun
        rw [hrun] at hlaw
        have st := run_ok (k := 0) (c := 0) ⟨fun _ h => absurd h (by simp), Nat.le_refl _⟩ hrun
        have no : (∀ r, S ≠ [.t r]) → Q .non H' := fun hn => by
          refine q1 ?_ _ s5
          rw [hlaw]
          split
          · rename_i r e
            cases e
            exact absurd rfl (hn r)
          · rfl
        refine ⟨_, rfl, false, rfl, ?_⟩
        refine ⟨_, rfl, M, vs, rfl, .inl (SqL.of eM5), rfl, _, rfl, ?_⟩
        have hvl := hS.len
        by_cases h1 : vs.length = 1
        · rw [show (!decide (V.int ((vs.length : Nat) : Int) = V.int 1)) = false from by rw [h1]; rfl]
          cases hS with
          | nil => exact absurd h1 (by decide)
          | @cons v s vs S hv htl =>
            cases htl with
            | cons _ _ => exact absurd h1 (by simp)
            | nil =>
              have hok := (st.ok s List.mem_cons_self).1
              cases hv with
              | n => exact ⟨_, rfl, M, _, _, _, rfl, rfl, SqL.of eM5, rfl, true, rfl, no fun r e => by cases e⟩
              | w y => exact ⟨_, rfl, M, _, _, _, rfl, rfl, SqL.of eM5, rfl, false, rfl, _, rfl, M, _, _, _, rfl, rfl, SqL.of eM5, rfl, _, _, _, _, _, rfl, .ty "str", .base (.str y), kit_ty (r := true) (by decide +kernel), _, rfl, no fun r e => by cases e⟩
              | @t _ r hr =>
                have ql : ∀ H'', Same H' H'' → Q v H'' := fun H'' s9 => q2 r v H'' hlaw (fun b ob e => s9 _ _ (s5 _ _ e)) (hr.same s9)
                have ql := ql H' fun _ _ e => e
                cases r with
                | st y => exact absurd (show false = true from hok.2) (by decide)
                | lf l =>
                  obtain rfl := hr.lf_of
                  cases l with
                  | i n => exact ⟨_, rfl, M, _, _, _, rfl, rfl, SqL.of eM5, rfl, false, rfl, _, rfl, M, _, _, _, rfl, rfl, SqL.of eM5, rfl, _, _, _, _, _, rfl, .ty "str", .base (.int n), kit_ty (r := false) (by decide +kernel), _, rfl, _, rfl, M, _, _, _, rfl, rfl, SqL.of eM5, rfl, ql⟩
                  | b n => exact ⟨_, rfl, M, _, _, _, rfl, rfl, SqL.of eM5, rfl, false, rfl, _, rfl, M, _, _, _, rfl, rfl, SqL.of eM5, rfl, _, _, _, _, _, rfl, .ty "str", .base (.bl n), kit_ty (r := false) (by decide +kernel), _, rfl, _, rfl, M, _, _, _, rfl, rfl, SqL.of eM5, rfl, ql⟩
                | nd n y o =>
                  obtain ⟨a, vy, vo, rfl, g1, g2, g3⟩ := hr.nd_of
                  exact ⟨_, rfl, M, _, _, _, rfl, rfl, SqL.of eM5, rfl, false, rfl, _, rfl, M, _, _, _, rfl, rfl, SqL.of eM5, rfl, _, _, _, _, _, rfl, .ty "str", .base (.tup g1), kit_ty (r := false) (by decide +kernel), _, rfl, _, rfl, M, _, _, _, rfl, rfl, SqL.of eM5, rfl, ql⟩
        · rw [show (!decide (V.int ((vs.length : Nat) : Int) = V.int 1)) = true from by
            rw [decide_eq_false]
            · rfl
            · intro z
              have := V.int.inj z
              omega]
          exact no fun r e => h1 (by rw [hvl, e]; rfl)
end
end Law
set_option Elab.async false
set_option linter.all false
set_option maxRecDepth 100000
set_option maxHeartbeats 4000000
namespace Cor
open PySem PySem.Spec PyProof.Rows L2
theorem isS {P : Program} {w : World} (k : Str) (u : Tok) : (strKind P w).is k (.str k u) = true := by
  show Value.isStrOf k (.str k u) = true
  simp [Value.isStrOf]
theorem strsT_at : ∀ {us : List Value} {xs : List Str}, StrsAre us xs → ∀ {i : Nat} {v : Value}, us[i]? = some v → ∃ k t, xs[i]? = some k ∧ v = .str k t
  | _, _, .nil, _, _, e => by cases e
  | _, _, .cons _ _ _, 0, _, e => by cases e; exact ⟨_, _, rfl, rfl⟩
  | _, _, .cons _ _ t, i + 1, _, e => strsT_at t (i := i) e
def keyT (e : Int × Value) : Str := match e.2 with | .str k _ => k | _ => Str.empty
def GoodT (w : World) (e : Int × Value) : Prop := ∃ k tk, e.2 = Value.str k tk ∧ e.1 = hashStr w k
/-- the set of texts at a: S its members, n their number; its table rises and can be walked -/
def SetRT (w : World) (h : Heap) (a : Addr) (S : Str → Bool) (n : Nat) : Prop :=
  ∃ o es ep t, h.get? a = some o ∧ o.ExactSet ∧ o.data = .set es ep t ∧ (∀ e ∈ es.toList, GoodT w e) ∧ (es.toList.map keyT).Nodup ∧ (∀ k, S k = true ↔ k ∈ es.toList.map keyT) ∧
    es.size < scanBound ∧ t.fits es.size = true ∧ es.size = n ∧ Ris t.place.toList ∧ (w.params.followText "set-order" = true ∨ t.led = true)
section
variable {P : Program} {w : World} {h h' : Heap} {a : Addr} {S : Str → Bool} {n : Nat}
theorem SetRT.at (R : SetRT w h a S n) (k : ∀ o, h.get? a = some o → h'.get? a = some o) : SetRT w h' a S n := by
  obtain ⟨o, es, ep, t, ho, r⟩ := R
  exact ⟨o, es, ep, t, k o ho, r⟩
theorem SetRT.lt (R : SetRT w h a S n) : a < h.objs.size := by
  obtain ⟨o, es, ep, t, ho, r⟩ := R
  exact Heap.lt_size ho
theorem SetRT.congr {S' : Str → Bool} (R : SetRT w h a S n) (e : ∀ k, S' k = S k) : SetRT w h a S' n := by
  have q : S' = S := funext e
  rw [q]; exact R
theorem goodT_elems {l : List (Int × Value)} (g : ∀ e ∈ l, GoodT w e) : ElemsOf (strKind P w) l := fun e he => by
  obtain ⟨k, tk, h1, h2⟩ := g e he
  exact ⟨⟨k, by rw [h1]; exact isS k tk, h2⟩, by rw [h1] <;> rfl⟩
theorem goodT_is {e : Int × Value} (g : GoodT w e) (k : Str) : (strKind P w).is k e.2 = true ↔ keyT e = k := by
  obtain ⟨k0, tk, h1, _⟩ := g
  unfold keyT
  rw [h1]
  show ((k0 == k) = true) ↔ k0 = k
  exact beq_iff_eq
theorem goodT_mem {l : List (Int × Value)} (g : ∀ e ∈ l, GoodT w e) (k : Str) : k ∈ l.map keyT ↔ ∃ e ∈ l, (strKind P w).is k e.2 = true := by
  rw [List.mem_map]
  constructor
  · rintro ⟨e, he, q⟩
    exact ⟨e, he, (goodT_is (g e he) k).2 q⟩
  · rintro ⟨e, he, q⟩
    exact ⟨e, he, (goodT_is (g e he) k).1 q⟩
end
section
variable {P : Program} {w : World} {A : Around} {E : Value → Shared → Prop} {s : Shared} {a : Addr} {S : Str → Bool} {n : Nat}
theorem store_at {h : Heap} {a : Addr} {o : Obj} {es es' : Array (Int × Value)} {ep : Nat} {t t' : SetTable} (ho : h.get? a = some o) (hd : o.data = .set es ep t) :
    (h.update a (Obj.putSet es' t')).get? a = some { o with data := .set es' (ep + 1) t' } := by
  have q := Heap.get?_update_self (Obj.putSet es' t') ho (by rw [putSet_of es' t' hd]; rfl)
  rw [putSet_of es' t' hd] at q
  exact q
theorem setRT_new_at {w : World} {h : Heap} {a : Addr} {ns : List Str} (ho : h.get? a = some (emptyS w)) : SetRT w h a (fun j => decide (j ∈ ns.take 0)) 0 := by
  refine ⟨_, #[], 0, _, ho, ⟨rfl, rfl, rfl⟩, rfl, (fun e he => by simp at he), (by simp), (fun k => by simp), (by decide), (by rfl), rfl, List.Pairwise.nil, ?_⟩
  show _ ∨ (!w.params.followText "set-order") = true
  cases w.params.followText "set-order" <;> first | exact .inl rfl | exact .inr rfl
theorem setRT_add_tail {g : Bool → Sem Unit} (hg : ∀ (b : Bool) (s₁ : Shared) (Q' : Unit → Shared → Prop), Q' () s₁ → wpAny (model P w) A (g b) Q' E s₁)
    {o : Obj} {es : Array (Int × Value)} {ep : Nat} {t : SetTable} (ho : s.heap.get? a = some o) (hex : o.ExactSet) (hd : o.data = .set es ep t)
    {es1 : Array (Int × Value)} {t2 : SetTable} {S' : Str → Bool} (g1 : ∀ e ∈ es1.toList, GoodT w e) (nd1 : (es1.toList.map keyT).Nodup) (m1 : ∀ k, S' k = true ↔ k ∈ es1.toList.map keyT)
    (hb1 : es1.size < scanBound) (hf2 : t2.fits es1.size = true) (hr : Ris t2.place.toList) (hl : w.params.followText "set-order" = true ∨ t2.led = true) {wasDummy : Bool} {R : Option Bool → Shared → Prop}
    (hR : ∀ h', Heap.SameBut a s.heap h' → SetRT w h' a S' es1.size → R (some true) { s with heap := h' }) :
    wpAny (model P w) A (do
        storeSet a es1 t2
        if (!wasDummy && t2.tooFull) = true then do
            g (relayAll t2 es1 (SetTable.grown es1.size)).2.2
            storeSet a (relayAll t2 es1 (SetTable.grown es1.size)).1 (relayAll t2 es1 (SetTable.grown es1.size)).2.1
            pure (some true)
          else pure (some true)) R E s := by
  refine wpAny_bind (wpAny_storeSet_of ho hd ?_ (fits_of_scanBound hb1))
  have ho1 := store_at (es' := es1) (t' := t2) ho hd
  have sb1 := Heap.SameBut.update s.heap a (Obj.putSet es1 t2)
  split
  · have pm := relayAll_perm t2 es1 (SetTable.grown es1.size)
    have hf3 := relayAll_fits t2 es1 (SetTable.grown es1.size)
    have hr3 := relayAll_ris t2 es1 (SetTable.grown es1.size)
    have hl3 := relayAll_led t2 es1 (SetTable.grown es1.size)
    generalize relayAll t2 es1 (SetTable.grown es1.size) = Z at pm hf3 hr3 hl3 ⊢
    obtain ⟨es2, t3, gave⟩ := Z
    dsimp only at pm hf3 hr3 hl3 ⊢
    have hsz : es2.size = es1.size := by rw [← Array.length_toList, pm.length_eq, Array.length_toList]
    have hb2 : es2.size < scanBound := by rw [hsz]; exact hb1
    refine wpAny_bind (hg _ _ _ ?_)
    refine wpAny_bind (wpAny_storeSet_of ho1 rfl ?_ (fits_of_scanBound hb2))
    have ho2 := store_at (es' := es2) (t' := t3) ho1 rfl
    refine wpAny_pure (hR _ (sb1.trans (Heap.SameBut.update _ a _)) ?_)
    exact ⟨_, es2, _, t3, ho2, hex, rfl, fun e he => g1 e (pm.mem_iff.mp he), (pm.map keyT).nodup_iff.mpr nd1, fun k => (m1 k).trans (pm.map keyT).mem_iff.symm, hb2, hf3, hsz, hr3,
      hl.imp id fun z => by rw [hl3]; exact z⟩
  · exact wpAny_pure (hR _ sb1 ⟨_, es1, _, t2, ho1, hex, rfl, g1, nd1, m1, hb1, hf2, rfl, hr, hl⟩)
theorem setRT_add_hashed {k : Str} {tk : Tok} {Q : Bool → Shared → Prop} (R : SetRT w s.heap a S n) (room : n + 1 < scanBound)
    (hQ : ∀ h', Heap.SameBut a s.heap h' → SetRT w h' a (fun j => S j || decide (j = k)) (if S k = true then n else n + 1) → Q (!S k) { s with heap := h' }) :
    wpAny (model P w) A (setAddHashed a (.str k tk) ((strKind P w).hash k)) Q E s := by
  obtain ⟨o, es, ep, t, ho, hex, hd, g, nd, hm, hb, hf, hn, hr, hl⟩ := R
  have hkey : (strKind P w).is k (.str k tk) = true := isS k tk
  have hsc : (Value.str k tk).scannable = true := rfl
  have hel : ElemsOf (strKind P w) es.toList := goodT_elems g
  unfold setAddHashed setAddHashedIn
  refine wpAny_holding (wpAny_bind (wpAny_setState_of ho hd hf ?_))
  dsimp only
  rw [byScan_of hsc hb hel]
  simp only [↓reduceIte]
  unfold setAddByScan
  refine wpAny_bind ?_
  refine wpAny_bind (wpAny_rule ?_)
  refine wpAny_bind (wpAny_setScan_of hkey ho hd hf hel ?_)
  cases hfi : List.findIdx? (fun e => (strKind P w).is k e.2) es.toList with
  | some j =>
    dsimp only
    obtain ⟨hj, pj, _⟩ := List.findIdx?_eq_some_iff_getElem.mp hfi
    have hSk : S k = true := (hm k).2 ((goodT_mem (P := P) (w := w) g k).2 ⟨es.toList[j], List.getElem_mem hj, pj⟩)
    refine wpAny_pure (wpAny_pure ?_)
    have q := hQ s.heap (Heap.SameBut.refl a s.heap) ⟨o, es, ep, t, ho, hex, hd, g, nd, fun i => by
      rw [Bool.or_eq_true, decide_eq_true_eq, ← hm i]
      exact ⟨fun z => z.elim id (fun e => e ▸ hSk), .inl⟩, hb, hf, by rw [if_pos hSk]; exact hn, hr, hl⟩
    rw [hSk] at q
    exact q
  | none =>
    dsimp only
    have hnk : k ∉ es.toList.map keyT := fun z => by
      obtain ⟨e, he, q⟩ := (goodT_mem (P := P) (w := w) g k).1 z
      have c := List.findIdx?_eq_none_iff.mp hfi e he
      rw [q] at c
      cases c
    have hSk : S k = false := by
      cases q : S k with
      | false => rfl
      | true => exact absurd ((hm k).1 q) hnk
    have hgw : ∀ (b : Bool) {s₁ : Shared} {Q' : Unit → Shared → Prop}, Q' () s₁ → wpAny (model P w) A (match b with | true => rule "set.scan.the-table-gave-way" | false => pure ()) Q' E s₁ :=
      fun b s₁ Q' q => by cases b <;> first | exact wpAny_pure q | exact wpAny_rule q
    have pm := layNew_perm t es ((strKind P w).hash k) (.str k tk)
    have hf1 := layNew_fits t es ((strKind P w).hash k) (.str k tk)
    have hr1 := layNew_ris t es ((strKind P w).hash k) (.str k tk) hr
    have hl1 := layNew_led t es ((strKind P w).hash k) (.str k tk)
    generalize layNew t es ((strKind P w).hash k) (.str k tk) = Z at pm hf1 hr1 hl1 ⊢
    obtain ⟨es1, t1, wasDummy, gave⟩ := Z
    dsimp only at pm hf1 hr1 hl1 ⊢
    rw [Array.toList_push] at pm
    have pc : es1.toList.Perm (((strKind P w).hash k, Value.str k tk) :: es.toList) := pm.trans (List.perm_append_singleton _ _)
    have pk : (es1.toList.map keyT).Perm (k :: es.toList.map keyT) := pc.map keyT
    have g1 : ∀ e ∈ es1.toList, GoodT w e := fun e he => by
      rcases List.mem_cons.mp (pc.mem_iff.mp he) with z | z
      · rw [z]; exact ⟨k, tk, rfl, rfl⟩
      · exact g e z
    have nd1 : (es1.toList.map keyT).Nodup := pk.nodup_iff.mpr (List.nodup_cons.mpr ⟨hnk, nd⟩)
    have m1 : ∀ i, (S i || decide (i = k)) = true ↔ i ∈ es1.toList.map keyT := fun i => by
      rw [Bool.or_eq_true, decide_eq_true_eq, hm i, pk.mem_iff, List.mem_cons]
      exact Or.comm
    have hsz : es1.size = n + 1 := by rw [← Array.length_toList, pc.length_eq, List.length_cons, Array.length_toList, hn]
    have hb1 : es1.size < scanBound := by rw [hsz]; exact room
    have hled : w.params.followText "set-order" = true ∨ t1.led = true := hl.imp id fun z => by rw [hl1]; exact z
    have fin : ∀ h', Heap.SameBut a s.heap h' → SetRT w h' a (fun j => S j || decide (j = k)) es1.size → Q true { s with heap := h' } := fun h' sb r => by
      have q := hQ h' sb
      rw [hSk] at q
      rw [hsz] at r
      exact q r
    refine wpAny_bind (hgw _ ?_)
    split
    · refine wpAny_bind ?_
      rw [hashByValue_scannable 8 hsc]
      refine wpAny_pure ?_
      refine setRT_add_tail ?_ ho hex hd g1 nd1 m1 hb1 ?_ ?_ ?_ ?_
      · intro b s₁ Q' q; cases b <;> first | exact wpAny_pure q | exact wpAny_rule q
      · first | (split <;> first | exact hf1 | exact SetTable.fits_plain_off hf1) | exact hf1
      · first | (split <;> exact hr1) | exact hr1
      · first | (split <;> exact hled) | exact hled
      · intro h' sb r; dsimp only; exact wpAny_pure (fin h' sb r)
    · refine wpAny_bind (wpAny_pure ?_)
      simp only [↓reduceIte]
      refine setRT_add_tail ?_ ho hex hd g1 nd1 m1 hb1 hf1 hr1 hled ?_
      · intro b s₁ Q' q; cases b <;> first | exact wpAny_pure q | exact wpAny_rule q
      · intro h' sb r; dsimp only; exact wpAny_pure (fin h' sb r)
end
section
variable {P : Program} {w : World} {A : Around} {E : Value → Shared → Prop} {s : Shared}
theorem set_update_txts {I : Addr} {fp wr : List Addr} {G : Array GenState → Array GenState → Prop} {n : Nat} {Pv : Nat → Value → Prop} {St : Nat → Shared → Prop} {R : Result → Shared → Prop}
    (W : WalksS P w A.in1 I fp wr G n Pv St) (S : Addr) (hSf : S ∉ fp) (ns : List Str) (hn : n = ns.length) (hb : ns.length + 1 < scanBound) (hval : ∀ i v, Pv i v → ∃ k t, ns[i]? = some k ∧ v = .str k t) :
    ∀ (k i : Nat) (s : Shared), n - i = k → i ≤ n → St i s → (∃ c, c ≤ i ∧ SetRT w s.heap S (fun j => decide (j ∈ ns.take i)) c) →
      (∀ s' c, Moved (S :: wr) G s s' → c ≤ n → SetRT w s'.heap S (fun j => decide (j ∈ ns)) c → R (.ok (.ret .none)) s') →
      codeAny (model P w) A (.builtin "set.update.loop" ⟨[.ref S, .ref I], []⟩) R s := by
  have hSw : S ∉ wr := fun h => hSf (W.sub _ h)
  have hsub : ∀ b ∈ wr, b ∈ S :: wr := fun b hb => List.mem_cons_of_mem _ hb
  intro k
  induction k with
  | zero =>
    intro i s hk' hi hst ⟨c, hc, hS⟩ hR
    have hin : i = n := by omega
    subst hin
    refine codeAny_builtin F.entry_set_update_loop ?_
    rw [Around.under_plainId F.plain_set_update_loop _]
    show wpAny _ A.in1 (pyNext (.ref I) >>= _) _ _ s
    refine wpAny_bind (W.done s _ _ hst fun s' hm => ?_)
    show wpAny _ A.in1 (ret Value.none) _ _ s'
    have e : ns.take i = ns := List.take_of_length_le (by omega)
    rw [e] at hS
    exact wpAny_pure (hR s' c (hm.mono hsub) hc (hS.at fun o e => hm.heap S o hSw e))
  | succ k ih =>
    intro i s hk' hi hst ⟨c, hc, hS⟩ hR
    have hlt : i < n := by omega
    refine codeAny_builtin F.entry_set_update_loop ?_
    rw [Around.under_plainId F.plain_set_update_loop _]
    show wpAny _ A.in1 (pyNext (.ref I) >>= _) _ _ s
    refine wpAny_bind (W.item i s _ _ hlt hst fun v s' hP hst' hm => ?_)
    obtain ⟨z, t, hz, rfl⟩ := hval i v hP
    have hS' : SetRT w s'.heap S (fun j => decide (j ∈ ns.take i)) c := hS.at fun o e => hm.heap S o hSw e
    show wpAny _ A.in1 (holding [Value.str z t] (setAdd S (.str z t)) >>= _) _ _ s'
    refine wpAny_bind (wpAny_holding ?_)
    unfold setAdd
    refine wpAny_holding ?_
    refine wpAny_bind ((strKind P w).pyHash (k := z) (isS _ _) ?_)
    refine setRT_add_hashed (s := { s' with toks := s'.toks + 1 }) hS' (by omega) fun h' hsb hS2 => ?_
    have hS3 : SetRT w h' S (fun j => decide (j ∈ ns.take (i + 1))) (if decide (z ∈ ns.take i) = true then c else c + 1) := hS2.congr fun j => by
      rw [List.take_add_one, hz]
      simp [List.mem_append]
    have hc3 : (if decide (z ∈ ns.take i) = true then c else c + 1) ≤ i + 1 := by
      split <;> omega
    refine wpAny_pure ⟨plainId_quiet F.plain_set_update_loop _, ih (i + 1) _ (by omega) hlt (W.frame _ s' _ _ hst' (Nat.le_succ _) fun b hb o e => ?_) ⟨_, hc3, hS3⟩ fun s'' c2 hm'' hc'' hS'' => ?_⟩
    · rw [hsb.2 b (fun h : b = S => hSf (by rw [← h]; exact hb))]; exact e
    · refine hR s'' c2 (Moved.trans W.gtrans ((hm.mono hsub).then_heap (Nat.le_succ _) fun b o hb e => ?_) hm'') hc'' hS''
      rw [hsb.2 b (fun h : b = S => hb (by rw [h]; exact List.mem_cons_self))]; exact e
end
section
variable {P : Program} {w : World} {A : Around} {E : Value → Shared → Prop} {s : Shared}
theorem set_of_listT {l : Addr} {items : Array Value} (ns : List Str) {Q : Value → Shared → Prop} (hh : A.handled = none) (hl : s.heap.IsList l items) (hit : StrsAre items.toList ns) (hb : ns.length + 1 < scanBound)
    (h : ∀ (h' : Heap) (tk c : Nat), SetRT w h' s.heap.objs.size (fun j => decide (j ∈ ns)) c → c ≤ ns.length → (∀ b o, s.heap.get? b = some o → h'.get? b = some o) → Q (.ref s.heap.objs.size) { s with heap := h', toks := tk }) :
    wpAny (model P w) A (call (.type "set") [.ref l]) Q E s := by
  have size : items.size = ns.length := by rw [← Array.length_toList]; exact StrsAre.length hit
  obtain ⟨c, tl, hmro⟩ := F.called_set.mro
  have hmade := F.called_set.made
  have hsub := F.called_set.sub
  refine wpAny_call (codeAny_of_tree ?_)
  show wpAny _ _ (callAny (.type "set") _) _ _ _
  refine wpAny_pure ⟨Code.quiet_builtin _ (by decide +kernel), codeAny_builtin F.entry_type_call ?_⟩
  rw [Around.under_plain (weight_type_call_type "set" [.ref l] []) rfl]
  have h1 := F.called_set.notType
  have h2 := F.called_set.canCreate
  have hct := F.typeCall_set_1 (.ref l)
  repeat (any_goals (first | assumption | wp_step))
  refine codeAny_mono (code_set_led1 (.ref l) (E := E) (Q₁ := fun obj s1 => obj = .ref s.heap.objs.size ∧ s1 = { s with heap := s.heap.push (emptyS w) }) ⟨rfl, rfl⟩) fun r s1 hr => ?_
  match r, hr with
  | .error e, hr => exact hr
  | .ok .next, hr => exact hr.elim
  | .ok .brk, hr => exact hr.elim
  | .ok .cont, hr => exact hr.elim
  | .ok (.ret obj), hr =>
    obtain ⟨rfl, rfl⟩ := hr
    have hS : (s.heap.push (emptyS w)).get? s.heap.objs.size = some (emptyS w) := Heap.get?_push_size _ rfl
    have hT : Shared.TypeIs { s with heap := s.heap.push (emptyS w) } (.ref s.heap.objs.size) "set" := ⟨_, hS, rfl⟩
    have hli := F.called_set.init.lookup
    have hbi := F.called_set.init.bind (.ref s.heap.objs.size)
    repeat (any_goals (first | assumption | wp_step))
    refine codeAny_mono (codeAny_call_builtin (R := wants (fun r s2 => r = .none ∧ ∃ h' tk c, s2 = { s with heap := h', toks := tk } ∧ SetRT w h' s.heap.objs.size (fun j => decide (j ∈ ns)) c ∧ c ≤ ns.length ∧
        (∀ b o, s.heap.get? b = some o → h'.get? b = some o)) E) F.called_set.init.plain F.entry_set_init (check_set_init_1 hT ?_)) fun r2 s2 hr2 => ?_
    · obtain ⟨ol, hol, hcl, nl, hdl⟩ := hl
      obtain ⟨ocls, odict, odata, oslots⟩ := ol
      simp only at hcl hdl
      subst hcl; subst hdl
      have hol2 : (s.heap.push (emptyS w)).get? l = some { cls := .type "list", dict := odict, data := .seq items nl, slots := oslots } := Heap.get?_push_of_some _ hol
      have hsls := F.sub_list_set
      have hslf := F.sub_list_frozenset
      have hne : (Value.type "list" == Value.type "dict") = false := by decide
      have hl1 : (s.heap.push (emptyS w)).IsList l items := ⟨_, hol2, rfl, nl, rfl⟩
      unfold Builtin.«set.__init__» noKeywords Builtin.Frozenset.updateFrom
      generalize hPI : pyIter = PI
      wp_walk
      subst hPI
      refine wpAny_pyIter_list hl1 ?_
      refine wpAny_bind (wpAny_runValue ?_)
      have lt : l < s.heap.objs.size := Heap.lt_size hol
      have hh3 : A.in1.in1.in1.handled = none := by simp [hh]
      have neI : l ≠ (s.heap.push (emptyS w)).objs.size := by rw [Heap.size_push]; exact Nat.ne_of_lt (Nat.lt_succ_of_lt lt)
      have notF : s.heap.objs.size ∉ [(s.heap.push (emptyS w)).objs.size, l] := by
        rw [Heap.size_push]
        simp only [List.mem_cons, List.not_mem_nil, or_false, not_or]
        exact ⟨Nat.ne_of_lt (Nat.lt_succ_self _), Nat.ne_of_gt lt⟩
      have vals : ∀ (i : Nat) (v : Value), items[i]? = some v → ∃ k t, ns[i]? = some k ∧ v = .str k t := fun i v hv => strsT_at hit (by rw [Array.getElem?_toList]; exact hv)
      refine set_update_txts ((Walks.list hh3 _ l neI items).toS) s.heap.objs.size notF ns size hb vals (items.size - 0) 0 _ (by omega) (Nat.zero_le _)
        ⟨⟨_, Heap.get?_push_size _ rfl, rfl, rfl⟩, (hl1.push _)⟩ ⟨0, Nat.le_refl 0, setRT_new_at (Heap.get?_push_of_some _ hS)⟩ fun s' c' hm hc' hS' => ?_
      obtain ⟨h', g2, d', tk', os'⟩ := s'
      obtain rfl : g2 = s.gens := hm.gens
      obtain rfl : d' = s.drawn := hm.drawn
      obtain rfl : os' = s.os := hm.os
      show wpAny _ _ _ _ _ _
      refine wpAny_pure ?_
      show wpAny _ _ (ret Value.none) _ _ _
      rw [size] at hc'
      refine wpAny_pure ⟨rfl, h', tk', c', rfl, hS', hc', fun b o e => ?_⟩
      have b0 : b < s.heap.objs.size := Heap.lt_size e
      refine hm.heap b o ?_ (Heap.get?_push_of_some _ (Heap.get?_push_of_some _ e))
      rw [Heap.size_push]
      simp only [List.mem_cons, List.not_mem_nil, or_false, not_or]
      exact ⟨Nat.ne_of_lt b0, Nat.ne_of_lt (Nat.lt_succ_of_lt b0)⟩
    · match r2, hr2 with
      | .error e, hr2 => exact hr2
      | .ok .next, hr2 => exact hr2.elim
      | .ok .brk, hr2 => exact hr2.elim
      | .ok .cont, hr2 => exact hr2.elim
      | .ok (.ret r), hr2 =>
        obtain ⟨rfl, h', tk, c', rfl, hS', hc', hk'⟩ := hr2
        repeat (any_goals (first | assumption | wp_step))
        exact h _ _ _ hS' hc' hk'
end
/-- the set of texts at a -/
def SetTx (w : World) (a : Addr) (S : Str → Bool) (n : Nat) : HO := .ext fun h => SetRT w h a S n
theorem setTx_new {w : World} {P : Program} {H : Hp} {h : Heap} {a : Addr} {S : Str → Bool} {n : Nat} (R : SetRT w h a S n) : ObjOk P w H h a (SetTx w a S n) := by
  have q := R
  obtain ⟨o, _, _, _, ho, _⟩ := q
  exact ⟨R, ⟨o, ho⟩, fun h1 h2 p k => SetRT.at p k⟩
/-- set(l) -/
def rSetTx (K : PySem.W.Frag) (w : World) : List V → Hp → VK → Prop := fun vs H Q => ∃ (l : Addr) (ns : List Str), vs = [.ref l] ∧ SqL K H l (ns.map V.str) ∧ ns.length ≤ 1000 ∧
  ∀ (p : Addr) (c : Nat), c ≤ ns.length → H p = none → Q (.ref p) (upd H p (SetTx w p (fun j => decide (j ∈ ns)) c))
theorem cr_setTx {X : Cx} (hc : X.calm = true) : CallR X (.type "set") (rSetTx X.K X.w) := by
  intro pins s σ H vs us Q I r h
  obtain ⟨l, ns, rfl, hl, hn, q⟩ := h
  rw [Vals.ref1 r]
  obtain ⟨its, rv, pl, hz⟩ := I.list hl
  refine set_of_listT ns (I.ok.hd hc) pl.isList (by simpa using rv.strs) (by unfold scanBound; omega) fun h' tk c R1 hcn k => ?_
  have fr : H s.heap.objs.size = none := I.hok.fresh (Nat.le_refl _)
  exact ⟨.ref s.heap.objs.size, _, I.laid (t' := tk) k (Nat.le_refl _) (setTx_new R1), rfl, q _ c hcn fr⟩
end Cor
set_option Elab.async false
set_option linter.all false
set_option maxRecDepth 100000
set_option maxHeartbeats 1000000
namespace Cor
open PySem PySem.Spec PyProof.Rows L2
def rLenTx (w : World) : List V → Hp → VK → Prop := fun vs H Q => ∃ (a : Addr) (S : Str → Bool) (n : Nat), vs = [V.ref a] ∧ H a = some (SetTx w a S n) ∧
  ((∃ ks : List Str, ks.Nodup ∧ (∀ k, k ∈ ks ↔ S k = true) ∧ ks.length = n) → Q (.int (n : Nat)) H)
theorem call_lenTx {X : Cx} : CallR X (.builtin "len") (rLenTx X.w) := by
  intro pins s σ H vs us Q I r h
  obtain ⟨a, S, n, rfl, ha, q⟩ := h
  have R : SetRT X.w s.heap a S n := (I.hok a _ ha).1
  rw [Vals.ref1 r]
  obtain ⟨o, es, ep, t, ho, hex, hd, g, nd, hm, hb, hf, hn, hr, hl⟩ := R
  have hb' : es.size < scanBound := hb
  refine call_len_set ho hex hd hf (by unfold scanBound at hb'; omega) ⟨.int (n : Nat), H, I.tok _, ⟨_, by rw [hn]⟩, q ⟨_, nd, fun k => (hm k).symm, by rw [List.length_map, Array.length_toList]; exact hn⟩⟩
end Cor
set_option Elab.async false
set_option linter.all false
set_option maxRecDepth 100000
set_option maxHeartbeats 1000000
namespace Law
open PySem PySem.Spec PyProof.Rows L2 Cor LamX NdefX GenW
abbrev sRight8 : Stmt := topS 52
theorem scRight8 : FnScope ["_law_text_here", "_law_tree_here", "_law_found_here"] ["_law_text_here"] (defScope sRight8) := ⟨rfl, rfl, rfl, by decide +kernel, rfl, by decide +kernel, by decide +kernel⟩
/-- a text is not too large -/
structure Tx8 (x : Str) : Prop where
  a : A7 x
  l : x.length ≤ 200000
  w : (wordsL x).length ≤ 2500
  c : clW (wordsL x) ≤ 170
def spRight8 : Sp := fun vs H Q _ => ∃ x : Str, vs = [.str x] ∧ Tx8 x ∧ ∀ H', Same H H' → Q (.bl true) H'
theorem rv_non {H : Hp} {v : V} {r : RT} (h : Rv H v r) : decide (v = .non) = false := by
  cases h with
  | lf l => cases l <;> rfl
  | st => rfl
  | nd => rfl
theorem refused_eqv (x : Str) : PyData.eqv (.tuple [.str "refused", .str x]) (.tuple [.str "refused", .str x]) = true := by
  show ((("refused" : Str) == ("refused" : Str)) && ((x == x) && true)) = true
  simp
theorem refused_shaped {x : Str} (h : A7 x) : SeqAt.shaped (.tuple [.str "refused", .str x]) = true := by
  unfold SeqAt.shaped
  have e : PyData.canLay0 (.tuple [.str "refused", .str x]) = (PyData.canLay0 (.str "refused") && (PyData.canLay0 (.str x) && true)) := rfl
  rw [e, canLay_a7 h, show PyData.canLay0 (.str "refused") = true from by decide +kernel]
  rfl
section
variable {P : Program} {w : World} {K : PySem.W.Frag} {mg : Str → Option Value} {base : Heap} {C : Addr}
theorem ok_right8 {f : Addr} {fd : FuncData} (F : Fun K "_law_right" "_law_right" sRight8 f fd) (G : GloF mg) (W : WIs9 P w K mg base C) (zset : mg "set" = none)
    (drd : DfG P w K mg base "_law_read" 3 ["_law_text_here"] spRead8) (dto : Df P w K mg base "_law_told" 25 ["_law_text_here"] (spTold8 C)) (dki : DfG P w K mg base "_law_kinds" 172 ["_law_tree_here"] (spKinds8 171)) (dde : Df P w K mg base "_law_deep" 172 ["_law_tree_here"] (spDeep8 171))
    (dis : DfG P w K mg base "_law_is" 28 ["_law_worth", "_law_tree_here"] (spIs9 C)) (das : DfG P w K mg base "_law_as_built" 40 ["_law_found_here", "_law_tree_here"] (spAsB C)) : FnG P w K mg base CX0 173 f fd ["_law_text_here"] spRight8 := by
  refine okG F scRight8 (k := 172) (fun vs H Q E h => ?_) (fun cdv A outer s H vs Q E hr gd h => ?_)
  · obtain ⟨x, rfl, _⟩ := h
    rfl
  · obtain ⟨x, rfl, hx, q⟩ := h
    have T := G.toGloW
    refine ⟨_, (pss_cons (ps_par (i := 1) (j := 2) (by rfl) scRight8.nd rfl rfl (by decide) rfl rfl (pa_cons (pe_dfG (E := E0) drd (hr.mono (by decide)) gd (by rfl) (pa_cons (pv 0) pa_nil)) (pa_cons (pe_df (E := E0) dto (hr.mono (by decide)) (by rfl) (pa_cons (pv 0) pa_nil)) pa_nil)) (by rfl))
      (pss_cons (ps_if (PW.pt (pw_or (pt_cmp (pc_isN (pv 1)) rfl) (pw_or (pt_cmpR op_ne (pe_callB call_lenTx (by rfl) T.len PySem.boot_len (pa_cons (pe_callTy (cr_setTx rfl) (by rfl) zset (by decide +kernel) (pa_cons (pe_dfG (E := E0) dki (hr.mono (by decide)) gd (by rfl) (pa_cons (pv 1) pa_nil)) pa_nil)) pa_nil)) pe_int (nomark _)) (pw_or (pt_cmpR op_eq (pe_ix ix_list (pe_dfG (E := E0) dki (hr.mono (by decide)) gd (by rfl) (pa_cons (pv 1) pa_nil)) pe_int (fun _ _ => rfl)) pe_str (nomark _)) (pw_or1 (pt_cmpR op_gt (pe_df (E := E0) dde (hr.mono (by decide)) (by rfl) (pa_cons (pv 1) pa_nil)) pe_int (nomark _))))))) (pss_one (ps_ret (pe_cmpR (op_eqD hr.units) (pv 2) (pe_tup (pa_cons pe_str (pa_cons (pv 0) pa_nil))) (nomark _)))) pss_nil)
      (pss_one (ps_ret (pe_and (pe_callB (id := "isinstance") (show CallR _ (.builtin "isinstance") (rIsi K) from call_isi) (by rfl) T.isinstance (by decide +kernel) (pa_cons (pv 2) (pa_cons (pe_glob (v := .ref C) (by rfl) W.nm rfl) pa_nil))) (pe_and (pe_dfG (E := E0) dis (hr.mono (by decide)) gd (by rfl) (pa_cons (pv 2) (pa_cons (pv 1) pa_nil))) (pe_one (pe_dfG (E := E0) das (hr.mono (by decide)) gd (by rfl) (pa_cons (pv 2) (pa_cons (pv 1) pa_nil)))))))))), ?_⟩
    have l2 : x.length ≤ 1000000 := by have := hx.l; omega
    refine ⟨_, rfl, x, rfl, hx.l, hx.a, hx.w, hx.c, fun hn H1 s1 => ?_, fun r v H1 hlaw s1 hv => ?_⟩
    · have hrd : readT x = none := read_none.mpr (lawOk_no hn)
      refine ⟨_, rfl, x, rfl, hx.a, l2, (fun t ht => by rw [hrd] at ht; cases ht), fun _ p H2 s2 ep => ?_⟩
      have sB : Same H H2 := fun b o z => s2 b o (s1 b o z)
      have s0 : Same H2 H2 := fun _ _ z => z
      refine ⟨_, _, rfl, _, rfl, _, rfl, ?_⟩
      exact ⟨_, rfl, _, rfl, (by show 2 ≤ sizeLine; decide), fun pt npt => by
            have sz := same_upd (o := .tup [V.str "refused", V.str x]) npt
            exact ⟨.tuple [.str "refused", .str x], .tuple [.str "refused", .str x], .tup (SqT.of (sz _ _ (s0 _ _ ep))) (.cons (.str _) (.cons (.str _) .nil)), .tup (SqT.of upd_same) (.cons (.str _) (.cons (.str _) .nil)), refused_shaped hx.a, refused_shaped hx.a, by rw [refused_eqv]; exact q _ fun b o z => sz b o (s0 b o (sB b o z))⟩⟩
    have rok := law_rok hlaw hx.w hx.c
    obtain ⟨s, ks0, eks, hs0⟩ := kinds_head r
    have dp170 := rok.dp
    have kn := rok.kn
    cases hrd : readT x with
    | none =>
      have hno := read_none.mp hrd
      rw [lawOk_eq hlaw] at hno
      have hbad : ¬ ((∀ s ∈ kindsR r, some s = (kindsR r).head?) ∧ (kindsR r).head? ≠ some "other" ∧ depR r ≤ 12) := fun z => by rw [if_pos z] at hno; cases hno
      refine ⟨_, rfl, x, rfl, hx.a, l2, (fun t ht => by rw [hrd] at ht; cases ht), fun _ p H2 s2 ep => ?_⟩
      have sB : Same H H2 := fun b o z => s2 b o (s1 b o z)
      have hv2 := hv.same s2
      refine ⟨_, _, rfl, _, rfl, _, rfl, ?_⟩
      rw [rv_non hv2]
      refine iteF ⟨_, rfl, v, r, rfl, hv2, by omega, rok.ok, fun p3 H3 n3 s3 e3 => ⟨p3, kindsR r, rfl, SqL.of e3, by omega, fun ps c hc nps => ?_⟩⟩
      have s4 := same_upd (o := SetTx w ps (fun j => decide (j ∈ kindsR r)) c) nps
      have s5 : Same H2 (upd H3 ps (SetTx w ps (fun j => decide (j ∈ kindsR r)) c)) := fun b o z => s4 b o (s3 b o z)
      refine ⟨ps, _, c, rfl, upd_same, fun ⟨ks, nd, mem, len⟩ => ?_⟩
      have ok := one_kind nd (ns := kindsR r) (fun k => by rw [mem k, decide_eq_true_iff]) eks
      rw [len] at ok
      refine ⟨rfl, _, rfl, ?_⟩
      by_cases hA : c = 1
      rotate_left
      · rw [show (!decide (V.int ((c : Nat) : Int) = V.int 1)) = true from by
          rw [decide_eq_false (fun z => hA (by have := V.int.inj z; omega))]; rfl]
        exact ⟨_, rfl, _, rfl, (by show 2 ≤ sizeLine; decide), fun pt npt => by
            have sz := same_upd (o := .tup [V.str "refused", V.str x]) npt
            exact ⟨.tuple [.str "refused", .str x], .tuple [.str "refused", .str x], .tup (SqT.of (sz _ _ (s5 _ _ ep))) (.cons (.str _) (.cons (.str _) .nil)), .tup (SqT.of upd_same) (.cons (.str _) (.cons (.str _) .nil)), refused_shaped hx.a, refused_shaped hx.a, by rw [refused_eqv]; exact q _ fun b o z => sz b o (s5 b o (sB b o z))⟩⟩
      rw [show (!decide (V.int ((c : Nat) : Int) = V.int 1)) = false from by rw [hA]; rfl]
      have same := ok.mp hA
      refine ⟨_, rfl, v, r, rfl, hv2.same s5, by omega, rok.ok, fun p6 H6 n6 s6 e6 => ?_⟩
      have s7 : Same H2 H6 := fun b o z => s6 b o (s5 b o z)
      rw [eks, List.map_cons] at e6
      refine ⟨p6, _, _, _, rfl, rfl, SqL.of e6, atI_zero, rfl, _, rfl, ?_⟩
      by_cases hO : s = "other"
      · rw [hO, decide_eq_true rfl]
        exact ⟨_, rfl, _, rfl, (by show 2 ≤ sizeLine; decide), fun pt npt => by
            have sz := same_upd (o := .tup [V.str "refused", V.str x]) npt
            exact ⟨.tuple [.str "refused", .str x], .tuple [.str "refused", .str x], .tup (SqT.of (sz _ _ (s7 _ _ ep))) (.cons (.str _) (.cons (.str _) .nil)), .tup (SqT.of upd_same) (.cons (.str _) (.cons (.str _) .nil)), refused_shaped hx.a, refused_shaped hx.a, by rw [refused_eqv]; exact q _ fun b o z => sz b o (s7 b o (sB b o z))⟩⟩
      rw [decide_eq_false (fun z => hO (V.str.inj z))]
      have hd12 : 12 < depR r := Nat.not_le.mp fun z => hbad ⟨same, by rw [eks]; exact fun z => hO (Option.some.inj z), z⟩
      refine ⟨_, rfl, v, r, rfl, hv2.same s7, by omega, _, _, rfl, rfl, _, rfl, ?_⟩
      rw [decide_eq_true (show (12 : Int) < ((depR r : Nat) : Int) by omega)]
      exact ⟨_, rfl, _, rfl, (by show 2 ≤ sizeLine; decide), fun pt npt => by
            have sz := same_upd (o := .tup [V.str "refused", V.str x]) npt
            exact ⟨.tuple [.str "refused", .str x], .tuple [.str "refused", .str x], .tup (SqT.of (sz _ _ (s7 _ _ ep))) (.cons (.str _) (.cons (.str _) .nil)), .tup (SqT.of upd_same) (.cons (.str _) (.cons (.str _) .nil)), refused_shaped hx.a, refused_shaped hx.a, by rw [refused_eqv]; exact q _ fun b o z => sz b o (s7 b o (sB b o z))⟩⟩
    | some t0 =>
      obtain ⟨hlo, ext, rd, dp, ak⟩ := read_ok hrd
      obtain ⟨hgd, _⟩ := gd_read hrd (by have := hx.c; omega)
      rw [lawOk_eq hlaw] at hlo
      have hgood : (∀ s ∈ kindsR r, some s = (kindsR r).head?) ∧ (kindsR r).head? ≠ some "other" ∧ depR r ≤ 12 := Decidable.byContradiction fun z => by rw [if_neg z] at hlo; cases hlo
      rw [if_pos hgood] at hlo
      obtain rfl : r = emb t0 := Option.some.inj hlo
      refine ⟨_, rfl, x, rfl, hx.a, l2, (fun t ht a H2 s2 na hw => ?_), fun hn => by rw [hn] at hrd; cases hrd⟩
      obtain rfl : t0 = t := Option.some.inj (hrd.symm.trans ht)
      have sB : Same H H2 := fun b o z => s2 b o (s1 b o z)
      have hv2 := hv.same s2
      refine ⟨_, _, rfl, _, rfl, _, rfl, ?_⟩
      rw [rv_non hv2]
      refine iteF ⟨_, rfl, v, emb t0, rfl, hv2, by omega, rok.ok, fun p3 H3 n3 s3 e3 => ⟨p3, kindsR (emb t0), rfl, SqL.of e3, by omega, fun ps c hc nps => ?_⟩⟩
      have s4 := same_upd (o := SetTx w ps (fun j => decide (j ∈ kindsR (emb t0))) c) nps
      have s5 : Same H2 (upd H3 ps (SetTx w ps (fun j => decide (j ∈ kindsR (emb t0))) c)) := fun b o z => s4 b o (s3 b o z)
      refine ⟨ps, _, c, rfl, upd_same, fun ⟨ks, nd, mem, len⟩ => ?_⟩
      have ok := one_kind nd (ns := kindsR (emb t0)) (fun k => by rw [mem k, decide_eq_true_iff]) eks
      rw [len] at ok
      refine ⟨rfl, _, rfl, ?_⟩
      rw [show (!decide (V.int ((c : Nat) : Int) = V.int 1)) = false from by rw [ok.mpr hgood.1]; rfl]
      refine ⟨_, rfl, v, emb t0, rfl, hv2.same s5, by omega, rok.ok, fun p6 H6 n6 s6 e6 => ?_⟩
      have s7 : Same H2 H6 := fun b o z => s6 b o (s5 b o z)
      rw [eks, List.map_cons] at e6
      refine ⟨p6, _, _, _, rfl, rfl, SqL.of e6, atI_zero, rfl, _, rfl, ?_⟩
      have hO : s ≠ "other" := fun z => hgood.2.1 (by rw [eks, z]; rfl)
      rw [decide_eq_false (fun z => hO (V.str.inj z))]
      have hd12 := hgood.2.2
      refine ⟨_, rfl, v, emb t0, rfl, hv2.same s7, by omega, _, _, rfl, rfl, _, rfl, ?_⟩
      rw [decide_eq_false (show ¬ (12 : Int) < ((depR (emb t0) : Nat) : Int) by omega)]
      have hw7 := hw.kp (Same.kp s7)
      have tv7 := rv_emb (hv2.same s7)
      obtain ⟨S, hS, mS, lS, cS, small⟩ := hgd.cn
      refine ⟨_, rfl, _, _, _, _, _, rfl, .own C, W.ty hw7, W.kw, _, rfl, iteT ?_⟩
      refine ⟨_, rfl, _, rfl, .ref a, v, t0, _, _, _, _, S, fun r => t0.ev r, rfl, ⟨a, t0, rfl, hw7, cS, fun _ => rfl⟩, tv7, cS, (fun _ => rfl), hS, lS, hgd.dp, small, by decide, by decide, fun H8 s8 => ⟨_, rfl, iteT ?_⟩⟩
      exact ⟨_, rfl, _, rfl, a, v, t0, rfl, hw7.kp (Same.kp s8), tv7.same s8, hgd, fun H9 s9 => q _ fun b o z => s9 b o (s8 b o (s7 b o (sB b o z)))⟩
end
end Law
set_option Elab.async false
set_option linter.all false
set_option maxRecDepth 100000
set_option maxHeartbeats 1000000
namespace Law
open PySem PySem.Spec PyProof.Rows L2 Cor
theorem sum_zero8 : ∀ {l : List Nat}, (∀ n ∈ l, n = 0) → l.sum = 0
  | [], _ => rfl
  | a :: r, h => by
    rw [List.sum_cons, h a List.mem_cons_self, sum_zero8 fun n hn => h n (List.mem_cons_of_mem _ hn)]
/-- no word has more than k closing brackets -/
def Rn (k : Nat) (l : List Nat) : Prop := ∀ a b d, l = a ++ (b ++ d) → 32 ∉ b → b.count 41 ≤ k
theorem Rn.mono {k k' : Nat} {l : List Nat} (h : Rn k l) (hk : k ≤ k') : Rn k' l := fun a b d e n => Nat.le_trans (h a b d e n) hk
theorem Rn.of_count {k : Nat} {l : List Nat} (h : l.count 41 ≤ k) : Rn k l := fun a b d e _ => by
  rw [e, List.count_append, List.count_append] at h
  omega
theorem Rn.left {k : Nat} {u v : List Nat} (h : Rn k (u ++ v)) : Rn k u := fun a b d e n => h a b (d ++ v) (by rw [e]; simp) n
theorem Rn.right {k : Nat} {u v : List Nat} (h : Rn k (u ++ v)) : Rn k v := fun a b d e n => h (u ++ a) b d (by rw [e]; simp) n
theorem Rn.app {k k' : Nat} {u v : List Nat} (h : Rn k u) (h' : Rn k' v) : Rn (k + k') (u ++ v) := fun a b d e n => by
  rcases List.append_eq_append_iff.mp e with ⟨c, h1, h2⟩ | ⟨c, h1, h2⟩
  · have := h' c b d h2 n
    omega
  · rcases List.append_eq_append_iff.mp h2 with ⟨c2, h3, h4⟩ | ⟨c2, h3, h4⟩
    · -- c = b ++ c2
      have := h a b c2 (by rw [h1, h3]) n
      omega
    · rw [h3] at n ⊢
      have n1 : 32 ∉ c := fun z => n (List.mem_append_left _ z)
      have n2 : 32 ∉ c2 := fun z => n (List.mem_append_right _ z)
      have a1 := h a c [] (by rw [h1, List.append_nil]) n1
      have a2 := h' [] c2 d (by rw [h4]; rfl) n2
      rw [List.count_append]
      omega
theorem Rn.blank {k : Nat} {u v : List Nat} (h : Rn k u) (h' : Rn k v) : Rn k (u ++ 32 :: v) := fun a b d e n => by
  rcases List.append_eq_append_iff.mp e with ⟨c, h1, h2⟩ | ⟨c, h1, h2⟩
  · cases c with
    | nil =>
      rw [List.nil_append] at h2
      cases b with
      | nil => exact Nat.zero_le _
      | cons x b =>
        have h2 : 32 :: v = x :: (b ++ d) := h2
        exact absurd (List.mem_cons.mpr (.inl (List.cons.inj h2).1)) n
    | cons x c =>
      have h2 : 32 :: v = x :: (c ++ (b ++ d)) := h2
      exact h' c b d (List.cons.inj h2).2 n
  · rcases List.append_eq_append_iff.mp h2 with ⟨c2, h3, h4⟩ | ⟨c2, h3, h4⟩
    · exact h a b c2 (by rw [h1, h3]) n
    · cases c2 with
      | nil =>
        rw [List.append_nil] at h3
        exact h a b [] (by rw [h1, h3, List.append_nil]) n
      | cons x c2 =>
        have h4 : 32 :: v = x :: (c2 ++ d) := h4
        refine absurd ?_ n
        rw [h3, (List.cons.inj h4).1]
        exact List.mem_append_right _ List.mem_cons_self
def ct (c : Nat) (x : Str) : Nat := x.cps.toList.count c
theorem ct_app (c : Nat) (a b : Str) : ct c (a ++ b) = ct c a + ct c b := by
  unfold ct
  rw [show (a ++ b).cps.toList = a.cps.toList ++ b.cps.toList from sg_app a b, List.count_append]
theorem join_list (ps : List Str) : (Txt.join " " ps).cps.toList = TL.joinL [32] (ps.map fun p => p.cps.toList) := by
  have e : TL.tl (" " : Str) = [32] := one_blank.e
  rw [TL.join_eq]
  show TL.tl (Str.join " " ps) = _
  rw [TL.tl_join, e]
theorem joinL_count {c : Nat} (hc : c ≠ 32) : ∀ ps : List (List Nat), (TL.joinL [32] ps).count c = (ps.map fun p => p.count c).sum
  | [] => rfl
  | [p] => by show p.count c = p.count c + 0; omega
  | p :: q :: r => by
    rw [joinL_cons _ _ (by simp), List.count_append, List.count_append, joinL_count hc (q :: r)]
    have : [32].count c = 0 := by
      rw [List.count_eq_zero]
      exact fun z => hc (List.mem_singleton.mp z)
    rw [this, Nat.zero_add]
    rfl
theorem joinL_blanks : ∀ ps : List (List Nat), (TL.joinL [32] ps).count 32 ≤ (ps.map fun p => p.count 32).sum + (ps.length - 1)
  | [] => Nat.zero_le _
  | [p] => by show p.count 32 ≤ p.count 32 + 0 + (1 - 1); omega
  | p :: q :: r => by
    have ih := joinL_blanks (q :: r)
    rw [joinL_cons _ _ (by simp), List.count_append, List.count_append, show [32].count 32 = 1 from rfl, List.map_cons, List.sum_cons]
    simp only [List.length_cons] at ih ⊢
    omega
theorem joinL_len : ∀ ps : List (List Nat), (TL.joinL [32] ps).length ≤ (ps.map fun p => p.length + 1).sum
  | [] => Nat.zero_le _
  | [p] => by show p.length ≤ p.length + 1 + 0; omega
  | p :: q :: r => by
    have ih := joinL_len (q :: r)
    rw [joinL_cons _ _ (by simp), List.length_append, List.length_append, List.map_cons, List.sum_cons]
    show p.length + (1 + _) ≤ _
    omega
theorem joinL_len' : ∀ {ps : List (List Nat)}, ps ≠ [] → (ps.map fun p => p.length + 1).sum = (TL.joinL [32] ps).length + 1
  | [], h => absurd rfl h
  | [p], _ => by show p.length + 1 + 0 = p.length + 1; omega
  | p :: q :: r, _ => by
    have ih := joinL_len' (ps := q :: r) (by simp)
    rw [joinL_cons _ _ (by simp), List.length_append, List.length_append, List.map_cons, List.sum_cons, ih]
    show _ = p.length + (1 + _) + 1
    omega
theorem joinL_blanks' : ∀ {ps : List (List Nat)}, ps ≠ [] → ps.length ≤ (TL.joinL [32] ps).count 32 + 1
  | [], h => absurd rfl h
  | [p], _ => by show 1 ≤ _; omega
  | p :: q :: r, _ => by
    have ih := joinL_blanks' (ps := q :: r) (by simp)
    rw [joinL_cons _ _ (by simp), List.count_append, List.count_append, show [32].count 32 = 1 from rfl]
    simp only [List.length_cons] at ih ⊢
    omega
theorem joinL_rn {k : Nat} : ∀ {ps : List (List Nat)}, (∀ p ∈ ps, p.count 41 ≤ k) → Rn k (TL.joinL [32] ps)
  | [], _ => Rn.of_count (Nat.zero_le _)
  | [p], h => Rn.of_count (h p List.mem_cons_self)
  | p :: q :: r, h => by
    rw [joinL_cons _ _ (by simp)]
    exact Rn.blank (Rn.of_count (h p List.mem_cons_self)) (joinL_rn fun x hx => h x (List.mem_cons_of_mem _ hx))
theorem joinL_sub : ∀ {ps : List (List Nat)} {p : List Nat}, p ∈ ps → ∃ a d, TL.joinL [32] ps = a ++ (p ++ d)
  | q :: [], p, h => by
    rw [List.mem_singleton.mp h]
    exact ⟨[], [], by show q = _; simp⟩
  | q :: s :: r, p, h => by
    rw [joinL_cons _ _ (by simp)]
    rcases List.mem_cons.mp h with rfl | h
    · exact ⟨[], _, rfl⟩
    · obtain ⟨a, d, e⟩ := joinL_sub h
      exact ⟨q ++ ([32] ++ a), d, by rw [e]; simp⟩
/-- how many brackets, blanks and signs a text has -/
structure Cq (c o b L : Nat) (x : Str) : Prop where
  a : A7 x
  cc : ct 41 x ≤ c
  oo : ct 40 x ≤ o
  bb : ct 32 x ≤ b
  ll : x.length ≤ L
theorem Cq.mono {c o b L c' o' b' L' : Nat} {x : Str} (h : Cq c o b L x) (h1 : c ≤ c') (h2 : o ≤ o') (h3 : b ≤ b') (h4 : L ≤ L') : Cq c' o' b' L' x := ⟨h.a, Nat.le_trans h.cc h1, Nat.le_trans h.oo h2, Nat.le_trans h.bb h3, Nat.le_trans h.ll h4⟩
theorem a7_app {x y : Str} (h : A7 x) (h' : A7 y) : A7 (x ++ y) := fun c hc => by
  rw [show (x ++ y).cps.toList = x.cps.toList ++ y.cps.toList from sg_app x y] at hc
  exact (List.mem_append.mp hc).elim (h c) (h' c)
theorem Cq.app {c o b L c' o' b' L' : Nat} {x y : Str} (h : Cq c o b L x) (h' : Cq c' o' b' L' y) : Cq (c + c') (o + o') (b + b') (L + L') (x ++ y) := by
  have e1 := h.cc; have e2 := h'.cc; have e3 := h.oo; have e4 := h'.oo; have e5 := h.bb; have e6 := h'.bb; have e7 := h.ll; have e8 := h'.ll
  refine ⟨a7_app h.a h'.a, by rw [ct_app]; omega, by rw [ct_app]; omega, by rw [ct_app]; omega, ?_⟩
  rw [Str.length_append]
  omega
theorem flat_count (c n : Nat) (m : List Nat) (hc : c ≠ n) (hm : m.count c = 0) : ∀ l : List Nat, (l.flatMap fun d => if d = n then m else [d]).count c = l.count c
  | [] => rfl
  | d :: l => by
    rw [List.flatMap_cons, List.count_append, flat_count c n m hc hm l]
    by_cases e : d = n
    · rw [if_pos e, hm, List.count_cons, show (d == c) = false from by rw [beq_eq_false_iff_ne]; exact fun z => hc (z.symm.trans e)]
      simp
    · rw [if_neg e, List.count_cons (l := l), List.count_cons]
      simp
      omega
theorem fm_count41 : ∀ l : List Nat, (fm l).count 41 = l.count 41
  | [] => rfl
  | d :: l => by
    show ((if d = 41 then [32, 41] else [d]) ++ fm l).count 41 = _
    rw [List.count_append, fm_count41 l]
    by_cases e : d = 41
    · subst e
      rw [if_pos rfl, List.count_cons_self]
      show 1 + _ = _
      omega
    · rw [if_neg e, List.count_cons (l := l), List.count_cons]
      simp
      omega
theorem fm_count32 : ∀ l : List Nat, (fm l).count 32 = l.count 32 + l.count 41
  | [] => rfl
  | d :: l => by
    show ((if d = 41 then [32, 41] else [d]) ++ fm l).count 32 = _
    rw [List.count_append, fm_count32 l]
    by_cases e : d = 41
    · subst e
      rw [if_pos rfl, List.count_cons_self, List.count_cons, show ((41 : Nat) == 32) = false from rfl]
      show 1 + _ = _
      simp
      omega
    · rw [if_neg e, List.count_cons (l := l), List.count_cons (l := l), List.count_cons, show (d == 41) = false from by rw [beq_eq_false_iff_ne]; exact e]
      simp
      omega
theorem go_count41 (l : List Nat) : (go40 l).count 41 = l.count 41 := flat_count 41 40 [40, 32] (by decide) rfl l
theorem go_count32 : ∀ l : List Nat, (go40 l).count 32 = l.count 32 + l.count 40
  | [] => rfl
  | d :: l => by
    show ((if d = 40 then [40, 32] else [d]) ++ go40 l).count 32 = _
    rw [List.count_append, go_count32 l]
    by_cases e : d = 40
    · subst e
      rw [if_pos rfl, List.count_cons_self, List.count_cons, show ((40 : Nat) == 32) = false from rfl]
      show 1 + _ = _
      simp
      omega
    · rw [if_neg e, List.count_cons (l := l), List.count_cons (l := l), List.count_cons, show (d == 40) = false from by rw [beq_eq_false_iff_ne]; exact e]
      simp
      omega
/-- the bounds of the law's reader -/
theorem Cq.words {c o b L : Nat} {x : Str} (h : Cq c o b L x) : (wordsL x).length ≤ b + o + c + 1 ∧ clW (wordsL x) ≤ c := by
  have e1 := h.cc
  have e2 := h.oo
  have e3 := h.bb
  have ea := sg_apart x
  have ej : TL.joinL [32] ((wordsL x).map fun p => p.cps.toList) = fm (go40 (sg x)) := by
    rw [← join_list, wordsL_back]
    exact ea
  have ne : (wordsL x).map (fun p => p.cps.toList) ≠ [] := fun z => split_ne one_blank _ (List.map_eq_nil_iff.mp z)
  constructor
  · have := joinL_blanks' ne
    rw [ej, fm_count32, go_count32, go_count41, List.length_map] at this
    have e3 : (sg x).count 32 ≤ b := e3
    have e2 : (sg x).count 40 ≤ o := e2
    have e1 : (sg x).count 41 ≤ c := e1
    omega
  · have hs := joinL_count (c := 41) (by decide) ((wordsL x).map fun p => p.cps.toList)
    rw [ej, fm_count41, go_count41, List.map_map] at hs
    have : ∀ ws : List Str, clW ws ≤ (ws.map ((fun p : List Nat => p.count 41) ∘ fun p : Str => p.cps.toList)).sum := fun ws => by
      induction ws with
      | nil => exact Nat.zero_le _
      | cons w r ih =>
        unfold clW at ih ⊢
        rw [List.countP_cons, List.map_cons, List.sum_cons]
        by_cases hw : w = ")"
        · rw [if_pos (decide_eq_true hw), hw]
          have : ((fun p : List Nat => p.count 41) ∘ fun p : Str => p.cps.toList) ")" = 1 := by decide +kernel
          rw [this]
          omega
        · rw [if_neg (fun z => hw (of_decide_eq_true z))]
          omega
    have := this (wordsL x)
    have e1 : (sg x).count 41 ≤ c := e1
    omega
/-- a text that was spoilt some times -/
structure Sq8 (k c o b L : Nat) (x : Str) : Prop extends Cq c o b L x where
  rn : Rn k x.cps.toList
theorem len_list (x : Str) : x.length = x.cps.toList.length := (len_cps x).symm
theorem ct_take (c : Nat) (l : List Nat) (i : Nat) : (l.take i).count c + (l.drop i).count c = l.count c := by
  rw [← List.count_append, List.take_append_drop]
/-- a sign put in, left out, or otherwise -/
theorem Sq8.sign {k c o b L : Nat} {x y : Str} (h : Sq8 k c o b L x) {i j : Nat} {m : List Nat} (hij : i ≤ j) (hm : m.length ≤ 1) (h7 : ∀ d ∈ m, d < 128) (e : y.cps.toList = x.cps.toList.take i ++ (m ++ x.cps.toList.drop j)) : Sq8 (2 * k + 1) (c + 1) (2 * o + 1) (b + 1) (2 * L + 6) y := by
  obtain ⟨⟨ha, h1, h2, h3, h4⟩, hr⟩ := h
  have cnt : ∀ z : Nat, ct z y ≤ ct z x + 1 := fun z => by
    unfold ct
    rw [e, List.count_append, List.count_append]
    have h5 := ct_take z x.cps.toList i
    have h6 : m.count z ≤ m.length := List.count_le_length
    have h7 : (x.cps.toList.drop j).count z ≤ (x.cps.toList.drop i).count z := by
      have e : x.cps.toList.drop j = (x.cps.toList.drop i).drop (j - i) := by rw [List.drop_drop, show i + (j - i) = j by omega]
      rw [e]
      exact (List.drop_sublist _ _).count_le _
    omega
  refine ⟨⟨fun d hd => ?_, by have := cnt 41; omega, by have := cnt 40; omega, by have := cnt 32; omega, ?_⟩, ?_⟩
  · rw [e] at hd
    rcases List.mem_append.mp hd with hd | hd
    · exact ha d (List.mem_of_mem_take hd)
    · rcases List.mem_append.mp hd with hd | hd
      · exact h7 d hd
      · exact ha d (List.mem_of_mem_drop hd)
  · rw [len_list] at h4 ⊢
    rw [e, List.length_append, List.length_append, List.length_take, List.length_drop]
    omega
  · rw [e]
    have r1 : Rn k (x.cps.toList.take i) := Rn.left (v := x.cps.toList.drop i) (by rw [List.take_append_drop]; exact hr)
    have r2 : Rn k (x.cps.toList.drop j) := Rn.right (u := x.cps.toList.take j) (by rw [List.take_append_drop]; exact hr)
    have r3 : Rn 1 m := Rn.of_count (Nat.le_trans List.count_le_length hm)
    exact (Rn.app r1 (Rn.app r3 r2)).mono (by omega)
theorem Sq8.mono' {k c c' o b L : Nat} {x : Str} (h : Sq8 k c o b L x) (hc : c ≤ c') : Sq8 k c' o b L x := ⟨⟨h.a, Nat.le_trans h.cc hc, h.oo, h.bb, h.ll⟩, h.rn⟩
/-- a word put in, or otherwise -/
theorem Sq8.word {k c o b L : Nat} {x wd : Str} (h : Sq8 k c o b L x) {i j : Nat} (hij : i ≤ j) (hw : wd ∈ Txt.split x " " ∨ (A7 wd ∧ ct 41 wd ≤ 1 ∧ ct 40 wd ≤ 1 ∧ ct 32 wd = 0 ∧ wd.length ≤ 3)) :
    Sq8 (2 * k + 1) (c + max k 1) (2 * o + 1) (b + 1) (2 * L + 6) (Txt.join " " ((Txt.split x " ").take i ++ [wd] ++ (Txt.split x " ").drop j)) := by
  obtain ⟨⟨ha, h1, h2, h3, h4⟩, hr⟩ := h
  have back := split_back one_blank x
  have ne := split_ne one_blank x
  have mem := fun {p : Str} (hp : p ∈ Txt.split x " ") => split_mem one_blank hp
  generalize Txt.split x " " = W at back ne mem hw
  have eb : TL.joinL [32] (W.map fun p => p.cps.toList) = x.cps.toList := by rw [← join_list, back]
  have each : ∀ p ∈ W, ct 41 p ≤ k ∧ ct 40 p ≤ o ∧ ct 32 p = 0 ∧ A7 p ∧ p.length ≤ L := fun p hp => by
    obtain ⟨m1, m2, m3⟩ := mem hp
    obtain ⟨a, d, e⟩ := joinL_sub (List.mem_map_of_mem (f := fun p : Str => p.cps.toList) hp)
    rw [eb] at e
    refine ⟨hr a _ d e m3, ?_, List.count_eq_zero.mpr m3, fun d hd => ha d (m2 d hd), by omega⟩
    have h2 : x.cps.toList.count 40 ≤ o := h2
    rw [e, List.count_append, List.count_append] at h2
    unfold ct
    omega
  have hwd : ct 41 wd ≤ max k 1 ∧ ct 40 wd ≤ o + 1 ∧ ct 32 wd = 0 ∧ A7 wd ∧ wd.length ≤ L + 3 := by
    rcases hw with hw | ⟨w1, w2, w3, w4, w5⟩
    · obtain ⟨e1, e2, e3, e4, e5⟩ := each wd hw
      exact ⟨by omega, by omega, e3, e4, by omega⟩
    · exact ⟨by omega, by omega, w4, w1, by omega⟩
  obtain ⟨w1, w2, w3, w4, w5⟩ := hwd
  have sums : ∀ g : Str → Nat, ((W.take i ++ [wd] ++ W.drop j).map g).sum ≤ (W.map g).sum + g wd := fun g => by
    rw [List.map_append, List.map_append, List.sum_append, List.sum_append]
    have e1 : (W.map g).sum = ((W.take i).map g).sum + ((W.drop i).map g).sum := by rw [← List.sum_append, ← List.map_append, List.take_append_drop]
    have e2 : ((W.drop j).map g).sum ≤ ((W.drop i).map g).sum := by
      have e : W.drop j = (W.drop i).drop (j - i) := by rw [List.drop_drop, show i + (j - i) = j by omega]
      have e3 : ((W.drop i).map g).sum = (((W.drop i).take (j - i)).map g).sum + (((W.drop i).drop (j - i)).map g).sum := by rw [← List.sum_append, ← List.map_append, List.take_append_drop]
      rw [e, e3]
      omega
    show _ + (g wd + 0) + _ ≤ _
    omega
  have lens : (W.take i ++ [wd] ++ W.drop j).length ≤ W.length + 1 := by
    rw [List.length_append, List.length_append, List.length_take, List.length_drop]
    show _ + 1 + _ ≤ _
    omega
  have allm : ∀ p ∈ W.take i ++ [wd] ++ W.drop j, p ∈ W ∨ p = wd := fun p hp => by
    rcases List.mem_append.mp hp with hp | hp
    · rcases List.mem_append.mp hp with hp | hp
      · exact .inl (List.mem_of_mem_take hp)
      · exact .inr (List.mem_singleton.mp hp)
    · exact .inl (List.mem_of_mem_drop hp)
  generalize W.take i ++ [wd] ++ W.drop j = V at sums lens allm
  have nev : (W.map fun p => p.cps.toList) ≠ [] := fun z => ne (List.map_eq_nil_iff.mp z)
  have cnt : ∀ z : Nat, z ≠ 32 → ct z (Txt.join " " V) ≤ ct z x + ct z wd := fun z hz => by
    have e1 := joinL_count hz (V.map fun p => p.cps.toList)
    have e2 := joinL_count hz (W.map fun p => p.cps.toList)
    rw [List.map_map] at e1 e2
    have := sums ((fun p : List Nat => p.count z) ∘ fun p : Str => p.cps.toList)
    unfold ct
    rw [join_list, e1, ← eb, e2]
    exact this
  refine ⟨⟨fun d hd => ?_, by have := cnt 41 (by decide); omega, by have := cnt 40 (by decide); omega, ?_, ?_⟩, ?_⟩
  · rw [join_list] at hd
    have : ∀ ps : List (List Nat), (∀ p ∈ ps, ∀ d ∈ p, d < 128) → ∀ d ∈ TL.joinL [32] ps, d < 128 := fun ps => by
      induction ps with
      | nil => intro _ d hd; cases hd
      | cons p r ih =>
        intro hp d hd
        cases r with
        | nil => exact hp p List.mem_cons_self d hd
        | cons q r =>
          rw [joinL_cons _ _ (by simp)] at hd
          rcases List.mem_append.mp hd with hd | hd
          · exact hp p List.mem_cons_self d hd
          · rcases List.mem_append.mp hd with hd | hd
            · rw [List.mem_singleton.mp hd]; decide
            · exact ih (fun p h => hp p (List.mem_cons_of_mem _ h)) d hd
    refine this _ (fun p hp => ?_) d hd
    obtain ⟨q, hq, rfl⟩ := List.mem_map.mp hp
    rcases allm q hq with z | z
    · exact (each q z).2.2.2.1
    · rw [z]; exact w4
  · have e1 := joinL_blanks (V.map fun p => p.cps.toList)
    have e2 := joinL_blanks' nev
    have z : ((V.map fun p => p.cps.toList).map fun p => p.count 32).sum = 0 := by
      rw [List.map_map]
      refine sum_zero8 fun n hn => ?_
      obtain ⟨q, hq, rfl⟩ := List.mem_map.mp hn
      rcases allm q hq with y | y
      · exact (each q y).2.2.1
      · rw [y]; exact w3
    rw [eb, List.length_map] at e2
    rw [z, List.length_map] at e1
    unfold ct
    rw [join_list]
    have h3 : x.cps.toList.count 32 ≤ b := h3
    omega
  · have e1 := joinL_len (V.map fun p => p.cps.toList)
    have e2 := joinL_len' nev
    rw [eb] at e2
    rw [List.map_map] at e1 e2
    have e3 := sums ((fun p : List Nat => p.length + 1) ∘ fun p : Str => p.cps.toList)
    have e4 : ((fun p : List Nat => p.length + 1) ∘ fun p : Str => p.cps.toList) wd = wd.length + 1 := by rw [len_list]; rfl
    rw [e4] at e3
    rw [len_list, join_list]
    rw [len_list] at h4
    omega
  · rw [join_list]
    refine (joinL_rn (k := max k 1) fun p hp => ?_).mono (by omega)
    obtain ⟨q, hq, rfl⟩ := List.mem_map.mp hp
    rcases allm q hq with z | z
    · have := (each q z).1
      unfold ct at this
      omega
    · rw [z]; exact w1
end Law
set_option Elab.async false
set_option linter.all false
set_option maxRecDepth 100000
set_option maxHeartbeats 1000000
namespace Law
open PySem PySem.Spec PyProof.Rows L2 Cor
theorem txt_len9 : ∀ {t : Tr}, Rd t → (txt t).length ≤ 50 * t.sz
  | .lf (.i n), h => by
    have h1 : (Str.ofString (toString n)).length ≤ 21 := (big_num (show n.natAbs < 10 ^ 20 from h)).2.1
    show (Str.ofString (toString n)).length ≤ 50 * 1
    omega
  | .lf (.b b), _ => by cases b <;> decide +kernel
  | .nd n y o, h => by
    obtain ⟨h1, h2, hy, ho⟩ := h
    have a := txt_len9 hy
    have b := txt_len9 ho
    have c := (big_num h2).2.1
    have e := congrArg List.length (sg_txt n y o)
    simp only [List.length_append, List.length_cons, List.length_nil] at e
    rw [← len_list, ← len_list, ← len_list, ← len_list] at e
    show _ ≤ 50 * (y.sz + o.sz + 1)
    omega
def spText9 (m : Nat) : Sp := fun vs H Q _ => ∃ (v : V) (t : Tr), vs = [v] ∧ Tv H v t ∧ t.dep < m ∧ t.sz ≤ 100000 ∧ Rd t ∧ Q (.str (txt t)) H
def spNums9 : Sp := fun vs H Q _ => ∃ (p : Addr) (m : Int), vs = [.ref p, .int m] ∧ Box H p ∧ 0 < m ∧ m ≤ 12 ∧
  ∀ q H' ns, SameBut p H H' → Box H' p → H q = none → H' q = some (.lst (ns.map V.int)) → Asc ns → (ns.length : Int) = m → (∀ n ∈ ns, 1 ≤ n ∧ n < 2 ^ 66) → Q (.ref q) H'
abbrev sMixed : Stmt := topS 35
theorem scMixed : FnScope ["_law_box_here", "_law_items", "_law_left", "_law_found_here", "_law_turn"] ["_law_box_here", "_law_items"] (defScope sMixed) := ⟨rfl, rfl, rfl, by decide +kernel, rfl, by decide +kernel, by decide +kernel⟩
/-- the items in some order -/
def spMixed : Sp := fun vs H Q _ => ∃ (p a : Addr) (xs : List Str), vs = [.ref p, .ref a] ∧ Box H p ∧ H a = some (.lst (xs.map V.str)) ∧ a ≠ p ∧ xs.length ≤ 100 ∧
  ∀ (L : Addr) (ys : List Str) (H' : Hp), SameBut p H H' → Box H' p → H L = none → H' L = some (.lst (ys.map V.str)) → ys.Perm xs → Q (.ref L) H'
theorem erase_map {α β : Type} (f : α → β) : ∀ (l : List α) (i : Nat), (l.map f).eraseIdx i = (l.eraseIdx i).map f
  | [], _ => rfl
  | _ :: _, 0 => rfl
  | x :: l, i + 1 => congrArg (f x :: ·) (erase_map f l i)
theorem erase_perm {α : Type} : ∀ (l : List α) (i : Nat) (h : i < l.length), (l[i] :: l.eraseIdx i).Perm l
  | [], _, h => absurd h (Nat.not_lt_zero _)
  | _ :: _, 0, _ => List.Perm.refl _
  | x :: l, i + 1, h => ((List.Perm.swap x (l[i]'(Nat.lt_of_succ_lt_succ h)) (l.eraseIdx i))).trans (List.Perm.cons x (erase_perm l i (Nat.lt_of_succ_lt_succ h)))
section
variable {P : Program} {w : World} {K : PySem.W.Frag} {mg : Str → Option Value} {base : Heap} {C : Addr}
theorem ok_textL9 {f : Addr} {fd : FuncData} (F : Fun K "_law_text" "_law_text" sTextL f fd) (T : GloW mg) (hm : mg "_law_text" = some (.ref f)) :
    ∀ m, FnOk P w K mg base CX0 (1 + m) f fd ["_law_tree_here"] (spText9 m) := by
  intro m
  induction m with
  | zero =>
    refine F.ok scTextL (k := 0) (fun vs H Q E h => ?_) (fun cdv A outer s H vs Q E hr h => ?_)
    · obtain ⟨v, t, rfl, _⟩ := h
      rfl
    · obtain ⟨v, t, rfl, _, hl, _⟩ := h
      omega
  | succ m IH =>
    have ih : Df P w K mg base "_law_text" (1 + m) ["_law_tree_here"] (spText9 m) := ⟨f, fd, IH, hm, F.kp, F.binds fun _ _ _ _ _ _ us hl => match us, hl with | [_], _ => rfl⟩
    refine F.ok scTextL (k := 1 + m) (fun vs H Q E h => ?_) (fun cdv A outer s H vs Q E hr h => ?_)
    · obtain ⟨v, t, rfl, _⟩ := h
      rfl
    · obtain ⟨v, t, rfl, hv, hl, hsz, sm, q⟩ := h
      refine ⟨_, (pss_cons (ps_if (pt_val (pe_callB (id := "isinstance") (show CallR _ (.builtin "isinstance") (rIsi K) from call_isi) (by rfl) T.isinstance (by decide +kernel) (pa_cons (pv 0) (pa_cons (pe_bltn (v := .ty "bool") (by rfl) T.bool (by decide +kernel) rfl) pa_nil)))) (pss_one (ps_ret (pe_ifExp (pt_val (pv 0)) pe_str pe_str))) pss_nil)
      (pss_cons (ps_if (pt_not (pt_val (pe_callB (id := "isinstance") (show CallR _ (.builtin "isinstance") (rIsi K) from call_isi) (by rfl) T.isinstance (by decide +kernel) (pa_cons (pv 0) (pa_cons (pe_bltn (v := .ty "tuple") (by rfl) T.tuple (by decide +kernel) rfl) pa_nil))))) (pss_one (ps_ret (pe_callTy call_str_int (by rfl) T.str (by decide +kernel) (pa_cons (pv 0) pa_nil)))) pss_nil)
      (pss_cons (ps_par (i := 1) (j := 2) (by rfl) scTextL.nd rfl rfl (by decide) rfl rfl (pa_cons (pe_df (E := E0) ih hr (by rfl) (pa_cons (pe_ix ix_tup (pv 0) pe_int (fun _ _ => rfl)) pa_nil)) (pa_cons (pe_df (E := E0) ih hr (by rfl) (pa_cons (pe_ix ix_tup (pv 0) pe_int (fun _ _ => rfl)) pa_nil)) pa_nil)) (by rfl))
      (pss_one (ps_ret (pe_op op_add_str (pe_op op_add_str (pe_op op_add_str (pe_op op_add_str (pe_op op_add_str (pe_op op_add_str pe_str (pe_callTy call_str_int (by rfl) T.str (by decide +kernel) (pa_cons (pe_ix ix_tup (pv 0) pe_int (fun _ _ => rfl)) pa_nil))) pe_str) (pv 1)) pe_str) (pv 2)) pe_str)))))), ?_⟩
      cases t with
      | lf l =>
        obtain rfl := hv.lf_of
        cases l with
        | i n =>
          refine ⟨_, rfl, _, _, _, _, _, rfl, .ty "bool", .base (.int n), kit_ty (r := false) (by decide +kernel), _, rfl, ?_⟩
          exact ⟨_, rfl, _, _, _, _, _, rfl, .ty "tuple", .base (.int n), kit_ty (r := false) (by decide +kernel), _, rfl, _, rfl, _, rfl, log_small sm, q⟩
        | b n =>
          refine ⟨_, rfl, _, _, _, _, _, rfl, .ty "bool", .base (.bl n), kit_ty (r := true) (by decide +kernel), _, rfl, _, rfl, _, rfl, ?_⟩
          cases n with
          | true => exact q
          | false => exact q
      | nd n ty to =>
        have fit : (txt (.nd n ty to)).length ≤ sizeLine := Nat.le_trans (txt_len9 sm) (by rw [sizeLine_eq]; omega)
        obtain ⟨a, y, o, rfl, h1, h2, h3⟩ := hv.nd_of
        have hl : max ty.dep to.dep + 1 < m + 1 := hl
        have hsz : ty.sz + to.sz + 1 ≤ 100000 := hsz
        obtain ⟨_, sn, sy, so⟩ := sm
        refine ⟨_, rfl, _, _, _, _, _, rfl, .ty "bool", .base (.tup h1), kit_ty (r := false) (by decide +kernel), _, rfl, ?_⟩
        refine ⟨_, rfl, _, _, _, _, _, rfl, .ty "tuple", .base (.tup h1), kit_ty (r := true) (by decide +kernel), _, rfl, ?_⟩
        refine ⟨_, rfl, a, _, _, _, rfl, rfl, SqT.of h1, rfl, y, ty, rfl, h2, by omega, by omega, sy, ?_⟩
        refine ⟨_, rfl, a, _, _, _, rfl, rfl, SqT.of h1, rfl, o, to, rfl, h3, by omega, by omega, so, _, _, rfl, ?_⟩
        have all : (Str.empty ++ "(" ++ Str.ofString (toString n) ++ " ? " ++ txt ty ++ " : " ++ txt to ++ ")" : Str).length ≤ sizeLine := fit
        rw [Str.empty_append] at all
        have qq : Q (.str ("(" ++ Str.ofString (toString n) ++ " ? " ++ txt ty ++ " : " ++ txt to ++ ")")) H := by
          have z : Q (.str (Str.empty ++ "(" ++ Str.ofString (toString n) ++ " ? " ++ txt ty ++ " : " ++ txt to ++ ")")) H := q
          rw [Str.empty_append] at z
          exact z
        have pre : ∀ {a b : Str}, (a ++ b).length ≤ sizeLine → a.length ≤ sizeLine := fun {a b} z => by rw [Str.length_append] at z; omega
        have a6 := pre all
        have a5 := pre a6
        have a4 := pre a5
        have a3 := pre a4
        have a2 := pre a3
        have lng : ∀ {a b : Str}, (a ++ b).length ≤ sizeLine → a.length + b.length ≤ sizeLine := fun {a b} z => by rw [Str.length_append] at z; exact z
        refine ⟨_, rfl, a, _, _, _, rfl, rfl, SqT.of h1, rfl, _, rfl, log_small sn, _, _, rfl, rfl, lng a2, _, _, rfl, rfl, lng a3, _, rfl, _, _, rfl, rfl, lng a4, _, _, rfl, rfl, lng a5, _, rfl, _, _, rfl, rfl, lng a6, _, _, rfl, rfl, lng all, qq⟩
theorem ok_nums9 {f : Addr} {fd : FuncData} (F : Fun K "_law_numbers" "_law_numbers" sNums f fd) (T : GloW mg) (dt : Df P w K mg base "_law_take" 1 ["_law_box_here", "_law_many"] spTk) : FnOk P w K mg base CX0 2 f fd ["_law_box_here", "_law_many"] spNums9 := by
  refine F.ok scNums (fun vs H Q E h => ?_) (fun cdv A outer s H vs Q E hr h => ?_)
  · obtain ⟨p, m, rfl, _⟩ := h
    rfl
  · obtain ⟨p, m, rfl, hb, m0, m1, q⟩ := h
    refine ⟨_, (pss_cons (ps_asg (pe_tup (pa_cons (pe_ix ix_list (pe_lst (pa_cons pe_int (pa_cons pe_int (pa_cons (pe_op op_add pe_int (pe_df (E := E0) dt hr (by rfl) (pa_cons (pv 0) (pa_cons pe_int pa_nil)))) (pa_cons (pe_op op_add pe_int (pe_df (E := E0) dt hr (by rfl) (pa_cons (pv 0) (pa_cons (pe_op op_pow pe_int pe_int) pa_nil)))) pa_nil))))) (pe_df (E := E0) dt hr (by rfl) (pa_cons (pv 0) (pa_cons pe_int pa_nil))) (fun _ _ => rfl)) (pa_cons (pe_op op_add pe_int (pe_df (E := E0) dt hr (by rfl) (pa_cons (pv 0) (pa_cons pe_int pa_nil)))) pa_nil))) (pg_tup rfl (pgs_cons (pg_name (i := 2) scNums.nd rfl (Or.inr rfl)) (pgs_cons (pg_name (i := 3) scNums.nd rfl (Or.inr rfl)) pgs_nil))))
      (pss_one (ps_ret (pe_lc (own := [("_law_k", 4)]) (g := gName 4) (by rfl) scNums.nd (pi_range1 (by rfl) T.range (pa_cons (pv 1) pa_nil)) (blkOk_by (own := [("_law_k", 4)]) (N := ["_law_box_here", "_law_many", "_law_first", "_law_step", "_law_k"]) (sc := defScope sNums) (by decide +kernel)) (fun _ _ _ _ _ => (pg_name (i := 4) scNums.nd rfl (Or.inl rfl))) (fun _ _ _ _ _ => pts_nil) (fun _ _ _ _ _ => (pe_op op_add (pv 2) (pe_op op_mul (pv 3) (pv 4)))))))), ?_⟩
    have hg0 : (10 : Int) ^ (Int.toNat 19) = 10000000000000000000 := by decide
    refine ⟨_, rfl, p, 30, rfl, hb, by decide, by decide, fun r H1 s1 b1 r0 r1 => ?_⟩
    refine ⟨_, _, rfl, rfl, _, rfl, _, _, rfl, rfl, ⟨by decide, by decide, by decide⟩, p, _, rfl, b1, by decide, by decide, fun r2 H2 s2 b2 r20 r21 => ?_⟩
    refine ⟨_, _, rfl, rfl, (by show 4 ≤ sizeLine; decide), fun l nl => ?_⟩
    rw [hg0] at r21
    have sl := same_upd (o := .lst [.int 1, .int 1, .int (1 + r), .int (1 + r2)]) nl
    refine ⟨_, rfl, p, 4, rfl, b2.same sl, by decide, by decide, fun r3 H3 s3 b3 r30 r31 => ?_⟩
    have el := s3 l _ (b2.ne nl) upd_same
    have s13 : SameBut p H H3 := s1.trans (s2.trans ((Cor.Same.but sl).trans s3))
    have key : ∃ fst : Int, atI [V.int 1, V.int 1, V.int (1 + r), V.int (1 + r2)] r3 = some (.int fst) ∧ 1 ≤ fst ∧ fst < 2 ^ 65 := by
      have cs : r3 = 0 ∨ r3 = 1 ∨ r3 = 2 ∨ r3 = 3 := by omega
      rcases cs with rfl | rfl | rfl | rfl
      · exact ⟨1, rfl, by decide, by decide⟩
      · exact ⟨1, rfl, by decide, by decide⟩
      · exact ⟨1 + r, rfl, by omega, by omega⟩
      · exact ⟨1 + r2, rfl, by omega, by omega⟩
    obtain ⟨fst, ef, f0, f1⟩ := key
    refine ⟨l, _, _, _, rfl, rfl, SqL.of el, ef, ?_⟩
    refine ⟨_, rfl, p, 3, rfl, b3, by decide, by decide, fun r4 H4 s4 b4 r40 r41 => ?_⟩
    refine ⟨_, _, rfl, rfl, (by show 2 ≤ sizeLine; decide), fun t nt => ?_⟩
    have st := same_upd (o := .tup [.int fst, .int (1 + r4)]) nt
    refine ⟨t, _, rfl, SqT.of upd_same, rfl, _, _, rfl, _, _, rfl, rfl, ?_⟩
    have s5 : SameBut p H (upd H4 t (.tup [.int fst, .int (1 + r4)])) := s13.trans (s4.trans (Cor.Same.but st))
    have b5 := b4.same st
    have fresh : ∀ D, (upd H4 t (.tup [.int fst, .int (1 + r4)])) D = none → H D = none := fun D nD => by
      cases hz : H D with
      | none => rfl
      | some o =>
        by_cases e : D = p
        · obtain ⟨x, y, z, e5, _⟩ := b5
          rw [e, e5] at nD; cases nD
        · rw [s5 D o e hz] at nD; cases nD
    refine ⟨_, rfl, m, rfl, by omega, by omega, fun D nD => lc_range (lo := 0) (fun i H' => Same (upd H4 t (.tup [.int fst, .int (1 + r4)])) H' ∧ H' D = some (.lst ((numsL fst (1 + r4) i).map V.int))) ?_ ?_ ?_⟩
    · exact ⟨same_upd nD, upd_same⟩
    · rintro i H' hi ⟨s6, e6⟩
      refine ⟨rfl, ?_⟩
      refine ⟨_, rfl, _, rfl, _, rfl, _, _, rfl, rfl, .inl ⟨by omega, by omega⟩, _, _, rfl, rfl, _, e6, ?_, ?_, ?_⟩
      · rw [List.length_map, numsL_len]; exact Nat.lt_of_lt_of_le hi (Nat.le_trans (by omega : m.toNat ≤ 12) (by decide))
      · exact fun b o z => by
          by_cases eb : b = D
          · rw [eb] at z
            rw [show (upd H4 t (.tup [.int fst, .int (1 + r4)])) D = none from nD] at z
            cases z
          · rw [upd_ne eb]; exact s6 b o z
      · rw [upd_same, numsL_succ, List.map_append]; rfl
    · rintro H' ⟨s6, e6⟩
      refine q D H' _ (s5.trans (Cor.Same.but s6)) (b5.same s6) (fresh D nD) e6 (numsL_asc (by omega)) ?_ fun n hn => ?_
      · rw [numsL_len]; omega
      · obtain ⟨j, hj, e⟩ := numsL_mem hn
        have h2 : (1 + r4) * (0 + (j : Int)) ≤ 3 * 12 := Int.mul_le_mul (by omega) (by omega) (by omega) (by omega)
        have h3 : 0 ≤ (1 + r4) * (0 + (j : Int)) := Int.mul_nonneg (by omega) (by omega)
        omega
theorem ok_mixed {f : Addr} {fd : FuncData} (F : Fun K "_law_mixed" "_law_mixed" sMixed f fd) (T : GloP K mg) (dt : Df P w K mg base "_law_take" 1 ["_law_box_here", "_law_many"] spTk) : FnOk P w K mg base CX0 2 f fd ["_law_box_here", "_law_items"] spMixed := by
  refine F.ok scMixed (k := 1) (fun vs H Q E h => ?_) (fun cdv A outer s H vs Q E hr h => ?_)
  · obtain ⟨p, a, xs, rfl, _⟩ := h
    rfl
  · obtain ⟨p, a, xs, rfl, hb, ha, nap, hl, q⟩ := h
    refine ⟨_, (pss_cons (ps_par (i := 2) (j := 3) (by rfl) scMixed.nd rfl rfl (by decide) rfl rfl (pa_cons (pe_callTy call_list_of (by rfl) T.list (by decide +kernel) (pa_cons (pv 1) pa_nil)) (pa_cons (pe_lst pa_nil) pa_nil)) (by rfl))
      (pss_cons (ps_for PassesOwn.never rfl (pi_range1 (by rfl) T.range (pa_cons (pe_callB call_len_seq (by rfl) T.len PySem.boot_len (pa_cons (pv 2) pa_nil)) pa_nil)) (pg_name (i := 4) scMixed.nd rfl (Or.inl rfl)) (pss_one (ps_expr (pe_bm PySem.F.plainAttrs_list PySem.F.slot_list_append PySem.F.type_list_append mt_append (pv 3) (pa_cons (pe_bm PySem.F.plainAttrs_list PySem.F.slot_list_pop PySem.F.type_list_pop mt_popAt (pv 2) (pa_cons (pe_df (E := E0) dt hr (by rfl) (pa_cons (pv 0) (pa_cons (pe_callB call_len_seq (by rfl) T.len PySem.boot_len (pa_cons (pv 2) pa_nil)) pa_nil))) pa_nil)) pa_nil)))))
      (pss_one (ps_ret (pv 3))))), ?_⟩
    refine ⟨_, rfl, a, _, rfl, .inl (SqL.of ha), fun L1 n1 => ?_⟩
    have s1 := same_upd (o := .lst (xs.map V.str)) n1
    have e1 : (upd H L1 (.lst (xs.map V.str))) L1 = some (.lst (xs.map V.str)) := upd_same
    generalize (upd H L1 (.lst (xs.map V.str))) = H1 at s1 e1 ⊢
    refine ⟨(by show 0 ≤ sizeLine; decide), fun L2 n2 => ?_⟩
    have s2 := same_upd (o := .lst []) n2
    have e2 : (upd H1 L2 (.lst [])) L2 = some (.lst []) := upd_same
    generalize (upd H1 L2 (.lst [])) = H2 at s2 e2 ⊢
    have n12 : L1 ≠ L2 := fun z => by rw [← z, e1] at n2; cases n2
    have n20 : H L2 = none := by
      cases hz : H L2 with
      | none => rfl
      | some o => rw [s1 _ _ hz] at n2; cases n2
    have s02 : Same H H2 := fun b o z => s2 b o (s1 b o z)
    have b2 := hb.same s02
    have np1 : L1 ≠ p := hb.ne n1
    have np2 : L2 ≠ p := (hb.same s1).ne n2
    have e12 := s2 _ _ e1
    refine ⟨_, _, rfl, _, rfl, L1, _, rfl, .inl (SqL.of e12), _, rfl, ?_, ?_, ?_⟩
    · rw [List.length_map]
      omega
    · rw [List.length_map]
      omega
    refine for_range (lo := 0) (fun i σ H' => ∃ (rest done : List Str) (t4 : Option V), σ = [some (.ref p), some (.ref a), some (.ref L1), some (.ref L2), t4] ∧ SameBut p H H' ∧ Box H' p ∧ H' L1 = some (.lst (rest.map V.str)) ∧ H' L2 = some (.lst (done.map V.str)) ∧ (done ++ rest).Perm xs ∧ done.length = i) ⟨xs, [], _, rfl, Cor.Same.but s02, b2, e12, e2, List.Perm.refl _, rfl⟩ ?_ ?_
    rotate_left
    · rintro σ H' ⟨rest, done, _, rfl, sb, b', eL1, eL2, perm, hd⟩
      have hl2 := perm.length_eq
      rw [List.length_append] at hl2
      have hr0 : rest = [] := by
        rw [List.length_map] at hd
        refine List.length_eq_zero_iff.mp ?_
        have : (((xs.length : Nat) : Int) - 0).toNat = xs.length := by omega
        omega
      rw [hr0, List.append_nil] at perm
      exact ⟨_, rfl, q L2 done H' sb b' n20 eL2 perm⟩
    rintro i σ H3 hi ⟨rest, done, t4, rfl, sb, b3, eL1, eL2, perm, hd⟩
    have hl2 := perm.length_eq
    rw [List.length_append] at hl2
    rw [List.length_map] at hi
    have rpos : 0 < rest.length := by omega
    refine ⟨_, rfl, .inl ⟨rfl, _, SqL.of eL2⟩, _, rfl, .inl ⟨rfl, _, SqL.of eL1⟩, _, rfl, _, rfl, L1, _, rfl, .inl (SqL.of eL1), ?_⟩
    rw [List.length_map]
    refine ⟨p, _, rfl, b3, by omega, by omega, fun r H4 s4 b4 r0 r1 => ?_⟩
    have eL14 := s4 _ _ np1 eL1
    have eL24 := s4 _ _ np2 eL2
    have hk : r.toNat < rest.length := by omega
    have hix : ixN (rest.map V.str).length r = some r.toNat := by
      unfold ixN
      rw [List.length_map, if_pos r0, if_pos (by omega)]
    refine ⟨L1, rest.map V.str, r, r.toNat, .str rest[r.toNat], rfl, rfl, eL14, by omega, by omega, (ixN_seq hix).1, by rw [List.getElem?_map, List.getElem?_eq_getElem hk]; rfl, ?_⟩
    have eL25 : (upd H4 L1 (.lst ((rest.map V.str).eraseIdx r.toNat))) L2 = some (.lst (done.map V.str)) := (upd_ne n12.symm).trans eL24
    refine ⟨L2, _, _, rfl, rfl, eL25, ?_, ?_⟩
    · rw [List.length_map]
      exact Nat.lt_of_le_of_lt (show done.length ≤ 100 by omega) (by decide)
    refine ⟨rest.eraseIdx r.toNat, done ++ [rest[r.toNat]], _, rfl, fun b o nb z => ?_, ?_, ?_, ?_, ?_, by rw [List.length_append, hd, List.length_singleton]⟩
    · have nb1 : b ≠ L1 := ne_of_none z n1
      have nb2 : b ≠ L2 := ne_of_none z n20
      rw [upd_ne nb2, upd_ne nb1]
      exact s4 b o nb (sb b o nb z)
    · obtain ⟨x0, x1, x2, ex, rx⟩ := b4
      exact ⟨x0, x1, x2, by rw [upd_ne np2.symm, upd_ne np1.symm]; exact ex, rx⟩
    · rw [upd_ne n12, upd_same, erase_map]
    · rw [upd_same, List.map_append]
      rfl
    · refine List.Perm.trans ?_ perm
      rw [List.append_assoc]
      refine List.Perm.append_left done ?_
      show (rest[r.toNat] :: rest.eraseIdx r.toNat).Perm rest
      exact erase_perm rest r.toNat hk
end
end Law
set_option Elab.async false
set_option linter.all false
set_option maxRecDepth 100000
set_option maxHeartbeats 1000000
namespace Law
open PySem PySem.Spec PyProof.Rows L2 Cor
abbrev sSpoil8 : Stmt := topS 58
theorem scSpoil8 : FnScope ["_law_box_here", "_law_text_here", "_law_signs", "_law_at", "_law_sign", "_law_words", "_law_spot", "_law_other"] ["_law_box_here", "_law_text_here"] (defScope sSpoil8) := ⟨rfl, rfl, rfl, by decide +kernel, rfl, by decide +kernel, by decide +kernel⟩
def signs8 : Str := "0123456789 ()?:-yesno\n+_"
theorem sign8 {k : Nat} (h : k < 24) : ∃ c, atI signs8.cps.toList (k : Int) = some c ∧ c < 128 := by
  have h2 : ∀ k : Fin 24, (match atI signs8.cps.toList ((k : Nat) : Int) with | some c => decide (c < 128) | none => false) = true := by decide +kernel
  have h3 := h2 ⟨k, h⟩
  cases hq : atI signs8.cps.toList (k : Int) with
  | none => rw [show atI signs8.cps.toList (((⟨k, h⟩ : Fin 24) : Nat) : Int) = none from hq] at h3; cases h3
  | some c => rw [show atI signs8.cps.toList (((⟨k, h⟩ : Fin 24) : Nat) : Int) = some c from hq] at h3; exact ⟨c, rfl, of_decide_eq_true h3⟩
def spSpoil8 : Sp := fun vs H Q _ => ∃ (p : Addr) (x : Str) (k c o b L : Nat), vs = [.ref p, .str x] ∧ Box H p ∧ Sq8 k c o b L x ∧ L ≤ 50000 ∧
  ∀ (y : Str) (H' : Hp), SameBut p H H' → Box H' p → Sq8 (2 * k + 1) (c + max k 1) (2 * o + 1) (b + 1) (2 * L + 6) y → Q (.str y) H'
def others8 (wd : Str) : List Str := ["yes", "no", "0", "-0", "01", "?", ":", "", "(1", "1", "2)", wd]
theorem other8 {wd x : Str} (hw : wd ∈ Txt.split x " ") : ∀ z ∈ others8 wd, z ∈ Txt.split x " " ∨ (A7 z ∧ ct 41 z ≤ 1 ∧ ct 40 z ≤ 1 ∧ ct 32 z = 0 ∧ z.length ≤ 3) := by
  intro z hz
  unfold others8 at hz
  simp only [List.mem_cons, List.not_mem_nil, or_false] at hz
  rcases hz with rfl | rfl | rfl | rfl | rfl | rfl | rfl | rfl | rfl | rfl | rfl | rfl
  · exact .inr ⟨by unfold A7; decide +kernel, by decide +kernel, by decide +kernel, by decide +kernel, by decide +kernel⟩
  · exact .inr ⟨by unfold A7; decide +kernel, by decide +kernel, by decide +kernel, by decide +kernel, by decide +kernel⟩
  · exact .inr ⟨by unfold A7; decide +kernel, by decide +kernel, by decide +kernel, by decide +kernel, by decide +kernel⟩
  · exact .inr ⟨by unfold A7; decide +kernel, by decide +kernel, by decide +kernel, by decide +kernel, by decide +kernel⟩
  · exact .inr ⟨by unfold A7; decide +kernel, by decide +kernel, by decide +kernel, by decide +kernel, by decide +kernel⟩
  · exact .inr ⟨by unfold A7; decide +kernel, by decide +kernel, by decide +kernel, by decide +kernel, by decide +kernel⟩
  · exact .inr ⟨by unfold A7; decide +kernel, by decide +kernel, by decide +kernel, by decide +kernel, by decide +kernel⟩
  · exact .inr ⟨by unfold A7; decide +kernel, by decide +kernel, by decide +kernel, by decide +kernel, by decide +kernel⟩
  · exact .inr ⟨by unfold A7; decide +kernel, by decide +kernel, by decide +kernel, by decide +kernel, by decide +kernel⟩
  · exact .inr ⟨by unfold A7; decide +kernel, by decide +kernel, by decide +kernel, by decide +kernel, by decide +kernel⟩
  · exact .inr ⟨by unfold A7; decide +kernel, by decide +kernel, by decide +kernel, by decide +kernel, by decide +kernel⟩
  · exact .inl hw
theorem cps_to (x : Str) (k : Nat) : (cutS x none (some (k : Int))).cps.toList = x.cps.toList.take k := by rw [cut_to]
theorem cps_from (x : Str) (k : Nat) : (cutS x (some (k : Int)) none).cps.toList = x.cps.toList.drop k := by rw [cut_from]
theorem cps_app8 (a b : Str) : (a ++ b).cps.toList = a.cps.toList ++ b.cps.toList := sg_app a b
section
variable {P : Program} {w : World} {K : PySem.W.Frag} {mg : Str → Option Value} {base : Heap}
theorem ok_spoil8 {f : Addr} {fd : FuncData} (F : Fun K "_law_spoilt" "_law_spoilt" sSpoil8 f fd) (T : GloP K mg) (dt : Df P w K mg base "_law_take" 1 ["_law_box_here", "_law_many"] spTk) : FnOk P w K mg base CX0 2 f fd ["_law_box_here", "_law_text_here"] spSpoil8 := by
  refine F.ok scSpoil8 (k := 1) (fun vs H Q E h => ?_) (fun cdv A outer s H vs Q E hr h => ?_)
  · obtain ⟨p, x, k, c, o, b, L, rfl, _⟩ := h
    rfl
  · obtain ⟨p, x, k, c, o, b, L, rfl, hb, hx, hL, q⟩ := h
    refine ⟨_, (pss_cons (ps_par (i := 2) (j := 3) (by rfl) scSpoil8.nd rfl rfl (by decide) rfl rfl (pa_cons pe_str (pa_cons (pe_df (E := E0) dt hr (by rfl) (pa_cons (pv 0) (pa_cons (pe_op op_add (pe_callB call_len_str (by rfl) T.len PySem.boot_len (pa_cons (pv 1) pa_nil)) pe_int) pa_nil))) pa_nil)) (by rfl))
      (pss_cons (ps_set (i := 4) scSpoil8.nd rfl (Or.inl rfl) (pe_ix ix_str (pv 2) (pe_df (E := E0) dt hr (by rfl) (pa_cons (pv 0) (pa_cons (pe_callB call_len_str (by rfl) T.len PySem.boot_len (pa_cons (pv 2) pa_nil)) pa_nil))) (fun _ _ => rfl)))
      (pss_cons (ps_if (pt_cmpR op_eq (pe_df (E := E0) dt hr (by rfl) (pa_cons (pv 0) (pa_cons pe_int pa_nil))) pe_int (nomark _)) (pss_one (ps_ret (pe_ix ix_list (pe_lst (pa_cons (pe_op op_add_str (pe_op op_add_str (pe_slice sl_str (pv 1) po_none (po_some (pv 3))) (pv 4)) (pe_slice sl_str (pv 1) (po_some (pv 3)) po_none)) (pa_cons (pe_op op_add_str (pe_slice sl_str (pv 1) po_none (po_some (pv 3))) (pe_slice sl_str (pv 1) (po_some (pe_op op_add (pv 3) pe_int)) po_none)) (pa_cons (pe_op op_add_str (pe_op op_add_str (pe_slice sl_str (pv 1) po_none (po_some (pv 3))) (pv 4)) (pe_slice sl_str (pv 1) (po_some (pe_op op_add (pv 3) pe_int)) po_none)) pa_nil)))) (pe_op op_mod (pv 3) pe_int) (fun _ _ => rfl)))) pss_nil)
      (pss_cons (ps_set (i := 5) scSpoil8.nd rfl (Or.inl rfl) (pe_split (pv 1) pe_str))
      (pss_cons (ps_set (i := 6) scSpoil8.nd rfl (Or.inl rfl) (pe_df (E := E0) dt hr (by rfl) (pa_cons (pv 0) (pa_cons (pe_callB call_len_seq (by rfl) T.len PySem.boot_len (pa_cons (pv 5) pa_nil)) pa_nil))))
      (pss_cons (ps_set (i := 7) scSpoil8.nd rfl (Or.inl rfl) (pe_lst (pa_cons pe_str (pa_cons pe_str (pa_cons pe_str (pa_cons pe_str (pa_cons pe_str (pa_cons pe_str (pa_cons pe_str (pa_cons pe_str (pa_cons pe_str (pa_cons pe_str (pa_cons pe_str (pa_cons (pe_ix ix_list (pv 5) (pe_op op_sub (pe_op op_sub (pe_callB call_len_seq (by rfl) T.len PySem.boot_len (pa_cons (pv 5) pa_nil)) pe_int) (pv 6)) (fun _ _ => rfl)) pa_nil))))))))))))))
      (pss_one (ps_ret (pe_join pe_str (pe_op op_cat (pe_op op_cat (pe_slice sl_list (pv 5) po_none (po_some (pv 6))) (pe_lst (pa_cons (pe_ix ix_list (pv 7) (pe_df (E := E0) dt hr (by rfl) (pa_cons (pv 0) (pa_cons pe_int pa_nil))) (fun _ _ => rfl)) pa_nil))) (pe_slice sl_list (pv 5) (po_some (pe_op op_add (pv 6) (pe_df (E := E0) dt hr (by rfl) (pa_cons (pv 0) (pa_cons pe_int pa_nil))))) po_none))))))))))), ?_⟩
    have xl : x.length ≤ L := hx.ll
    have hsz : x.length + 2 ≤ sizeLine := by rw [sizeLine_eq]; omega
    have sl8 : signs8.length = 24 := by decide +kernel
    refine ⟨_, rfl, _, rfl, ⟨_, rfl, by omega, _, _, rfl, rfl, p, ((x.length : Nat) : Int) + 1, rfl, hb, by omega, by omega, fun r H1 s1 b1 r0 r1 => ⟨_, _, rfl, ?_⟩⟩⟩
    obtain ⟨n, rfl⟩ := Int.eq_ofNat_of_zero_le r0
    have hn : n ≤ x.length := by omega
    refine ⟨_, rfl, _, rfl, _, rfl, signs8, rfl, by rw [sl8]; decide, p, ((signs8.length : Nat) : Int), rfl, b1, by rw [sl8]; decide, by rw [sl8]; decide, fun r2 H2 s2 b2 r20 r21 => ?_⟩
    rw [sl8] at r21
    obtain ⟨sg1, hc, c7⟩ := sign8 (show r2.toNat < 24 by omega)
    rw [show ((r2.toNat : Nat) : Int) = r2 by omega] at hc
    refine ⟨signs8, r2, sg1, rfl, rfl, by rw [sl8]; decide, hc, ?_⟩
    refine ⟨_, rfl, p, 2, rfl, b2, by decide, by decide, fun r3 H3 s3 b3 r30 r31 => ⟨rfl, _, rfl, ?_⟩⟩
    have t3 : SameBut p H H3 := s1.trans (s2.trans s3)
    have hz : x.length ≤ sizeLine := by omega
    have lt : (cutS x none (some (n : Int))).length ≤ x.length := by
      rw [len_list, cps_to, List.length_take, ← len_list]; omega
    have lf : (cutS x (some (n : Int)) none).length ≤ x.length := by
      rw [len_list, cps_from, List.length_drop, ← len_list]; omega
    have lf1 : (cutS x (some ((n : Int) + 1)) none).length ≤ x.length := by
      rw [len_list, show (cutS x (some ((n : Int) + 1)) none).cps.toList = x.cps.toList.drop (n + 1) from cps_from x (n + 1), List.length_drop, ← len_list]; omega
    have l1 : (⟨#[sg1]⟩ : Str).length = 1 := rfl
    have big : x.length + x.length + 3 ≤ sizeLine := by rw [sizeLine_eq]; omega
    refine ite2 (fun _ => ?_) (fun _ => ?_)
    · refine ⟨_, rfl, _, rfl, _, rfl, x, rfl, hz, _, rfl, _, _, rfl, rfl, by omega, _, rfl, _, rfl, _, rfl, x, rfl, hz, _, _, rfl, rfl, by rw [Str.length_append]; omega, ?_⟩
      refine ⟨_, rfl, _, rfl, _, rfl, x, rfl, hz, _, rfl, _, rfl, _, _, rfl, rfl, _, rfl, x, rfl, hz, _, _, rfl, rfl, by omega, ?_⟩
      refine ⟨_, rfl, _, rfl, _, rfl, x, rfl, hz, _, rfl, _, _, rfl, rfl, by omega, _, rfl, _, rfl, _, _, rfl, rfl, _, rfl, x, rfl, hz, _, _, rfl, rfl, by rw [Str.length_append]; omega, ?_⟩
      refine ⟨(by show 3 ≤ sizeLine; decide), fun l nl => ?_⟩
      have s4 := same_upd (o := .lst [V.str (cutS x none (some (n : Int)) ++ ⟨#[sg1]⟩ ++ cutS x (some (n : Int)) none), V.str (cutS x none (some (n : Int)) ++ cutS x (some ((n : Int) + 1)) none), V.str (cutS x none (some (n : Int)) ++ ⟨#[sg1]⟩ ++ cutS x (some ((n : Int) + 1)) none)]) nl
      have b4 := b3.same s4
      have t4 := t3.trans (Cor.Same.but s4)
      have cs : (n : Int) % 3 = 0 ∨ (n : Int) % 3 = 1 ∨ (n : Int) % 3 = 2 := by omega
      refine ⟨_, rfl, _, _, rfl, rfl, (by show (0 : Int) < 3; decide), ?_⟩
      refine (?_ : rIxL K (.ref l) (.int ((n : Int) % 3)) _ _)
      rcases cs with e | e | e
      · rw [e]
        refine ⟨l, _, _, _, rfl, rfl, SqL.of upd_same, rfl, q _ _ t4 b4 ((hx.sign (i := n) (j := n) (m := [sg1]) (Nat.le_refl _) (Nat.le_refl _) (fun d hd => by rw [List.mem_singleton.mp hd]; exact c7) ?_).mono' (by omega))⟩
        rw [cps_app8, cps_app8, cps_to, cps_from, List.append_assoc]
      · rw [e]
        refine ⟨l, _, _, _, rfl, rfl, SqL.of upd_same, rfl, q _ _ t4 b4 ((hx.sign (i := n) (j := n + 1) (m := []) (Nat.le_succ _) (Nat.zero_le _) (fun d hd => nomatch hd) ?_).mono' (by omega))⟩
        rw [cps_app8, cps_to, show (cutS x (some ((n : Int) + 1)) none).cps.toList = x.cps.toList.drop (n + 1) from cps_from x (n + 1)]
        rfl
      · rw [e]
        refine ⟨l, _, _, _, rfl, rfl, SqL.of upd_same, rfl, q _ _ t4 b4 ((hx.sign (i := n) (j := n + 1) (m := [sg1]) (Nat.le_succ _) (Nat.le_refl _) (fun d hd => by rw [List.mem_singleton.mp hd]; exact c7) ?_).mono' (by omega))⟩
        rw [cps_app8, cps_app8, cps_to, show (cutS x (some ((n : Int) + 1)) none).cps.toList = x.cps.toList.drop (n + 1) from cps_from x (n + 1), List.append_assoc]
    · refine ⟨_, rfl, ⟨_, rfl⟩, x, " ", rfl, rfl, by decide +kernel, hsz, fun Z nZ => ?_⟩
      have wne := split_ne one_blank x
      have wcount := split_count one_blank x
      have wmem := fun {y : Str} (hy : y ∈ Txt.split x " ") => (split_mem one_blank hy).1
      have word := fun {i j : Nat} {wd : Str} (hij : i ≤ j) hw => hx.word (i := i) (j := j) (wd := wd) hij hw
      have oth := fun {wd : Str} hw => other8 (wd := wd) (x := x) hw
      generalize Txt.split x " " = W at nZ wne wcount wmem word oth ⊢
      have s4 := same_upd (o := .lst (W.map V.str)) nZ
      have eZ : (upd H3 Z (.lst (W.map V.str))) Z = some (.lst (W.map V.str)) := upd_same
      have nZp : Z ≠ p := b3.ne nZ
      have b4 := b3.same s4
      have t4 := t3.trans (Cor.Same.but s4)
      generalize upd H3 Z (.lst (W.map V.str)) = H4 at s4 eZ b4 t4 ⊢
      have wpos : 0 < W.length := List.length_pos_iff.mpr wne
      refine ⟨_, rfl, _, rfl, Z, _, rfl, .inl (SqL.of eZ), p, (((W.map V.str).length : Nat) : Int), rfl, b4, by rw [List.length_map]; omega, by rw [List.length_map]; omega, fun r5 H5 s5 b5 r50 r51 => ?_⟩
      rw [List.length_map] at r51
      obtain ⟨m, rfl⟩ := Int.eq_ofNat_of_zero_le r50
      have hm : m < W.length := by omega
      have eZ5 := s5 _ _ nZp eZ
      have t5 := t4.trans s5
      have hk : W.length - 1 - m < W.length := by omega
      refine ⟨_, rfl, _, rfl, Z, _, rfl, .inl (SqL.of eZ5), _, _, rfl, rfl, _, rfl, _, _, rfl, rfl, Z, W.map V.str, _, .str W[W.length - 1 - m], rfl, rfl, SqL.of eZ5, ?_, ?_⟩
      · rw [List.length_map, show ((W.length : Nat) : Int) - 1 - (m : Int) = ((W.length - 1 - m : Nat) : Int) from by omega]
        exact atI_nat (by rw [List.getElem?_map, List.getElem?_eq_getElem hk]; rfl)
      have wdm : W[W.length - 1 - m] ∈ W := List.getElem_mem hk
      generalize W[W.length - 1 - m] = wd at wdm ⊢
      have oth := oth wdm
      refine ⟨(by show 12 ≤ sizeLine; decide), fun O nO => ?_⟩
      have s6 := same_upd (o := .lst [V.str "yes", V.str "no", V.str "0", V.str "-0", V.str "01", V.str "?", V.str ":", V.str "", V.str "(1", V.str "1", V.str "2)", V.str wd]) nO
      have eO : (upd H5 O (.lst [V.str "yes", V.str "no", V.str "0", V.str "-0", V.str "01", V.str "?", V.str ":", V.str "", V.str "(1", V.str "1", V.str "2)", V.str wd])) O = some (.lst [V.str "yes", V.str "no", V.str "0", V.str "-0", V.str "01", V.str "?", V.str ":", V.str "", V.str "(1", V.str "1", V.str "2)", V.str wd]) := upd_same
      have nOp : O ≠ p := b5.ne nO
      have eZ6 := s6 _ _ eZ5
      have b6 := b5.same s6
      have t6 := t5.trans (Cor.Same.but s6)
      generalize upd H5 O (.lst [V.str "yes", V.str "no", V.str "0", V.str "-0", V.str "01", V.str "?", V.str ":", V.str "", V.str "(1", V.str "1", V.str "2)", V.str wd]) = H6 at s6 eO eZ6 b6 t6 ⊢
      have eO : H6 O = some (.lst ((others8 wd).map V.str)) := eO
      refine ⟨⟨_, rfl⟩, _, rfl, _, rfl, _, rfl, Z, _, rfl, SqL.of eZ6, fun R1 nR1 => ?_⟩
      rw [cut_takeV, ← List.map_take]
      have s7 := same_upd (o := .lst ((W.take m).map V.str)) nR1
      have eR1 : (upd H6 R1 (.lst ((W.take m).map V.str))) R1 = some (.lst ((W.take m).map V.str)) := upd_same
      have nR1p : R1 ≠ p := b6.ne nR1
      have b7 := b6.same s7
      have t7 := t6.trans (Cor.Same.but s7)
      have eO7 := s7 _ _ eO
      have eZ7 := s7 _ _ eZ6
      generalize upd H6 R1 (.lst ((W.take m).map V.str)) = H7 at s7 eR1 b7 t7 eO7 eZ7 ⊢
      refine ⟨_, rfl, _, rfl, p, 12, rfl, b7, by decide, by decide, fun r8 H8 s8 b8 r80 r81 => ?_⟩
      obtain ⟨u, rfl⟩ := Int.eq_ofNat_of_zero_le r80
      have hu : u < (others8 wd).length := by show u < 12; omega
      have eO8 := s8 _ _ nOp eO7
      have eZ8 := s8 _ _ nZp eZ7
      have eR8 := s8 _ _ nR1p eR1
      have t8 := t7.trans s8
      have ozm := List.getElem_mem hu
      refine ⟨O, (others8 wd).map V.str, _, .str (others8 wd)[u], rfl, rfl, SqL.of eO8, atI_nat (by rw [List.getElem?_map, List.getElem?_eq_getElem hu]; rfl), (by show 1 ≤ sizeLine; decide), fun Y nY => ?_⟩
      generalize (others8 wd)[u] = ow at ozm nY ⊢
      have s9 := same_upd (o := .lst [V.str ow]) nY
      have eY : (upd H8 Y (.lst [V.str ow])) Y = some (.lst [V.str ow]) := upd_same
      have eR9 := s9 _ _ eR8
      have eZ9 := s9 _ _ eZ8
      have b9 := b8.same s9
      have t9 := t8.trans (Cor.Same.but s9)
      generalize upd H8 Y (.lst [V.str ow]) = H9 at s9 eY eR9 eZ9 b9 t9 ⊢
      have lW : W.length ≤ 50001 := by omega
      refine ⟨R1, Y, _, _, rfl, rfl, eR9, eY, ?_, fun C1 nC1 => ?_⟩
      · rw [List.length_map, List.length_take, sizeLine_eq]
        show _ + 1 ≤ _
        omega
      have s10 := same_upd (o := .lst ((W.take m).map V.str ++ [V.str ow])) nC1
      have eC1 : (upd H9 C1 (.lst ((W.take m).map V.str ++ [V.str ow]))) C1 = some (.lst ((W.take m).map V.str ++ [V.str ow])) := upd_same
      have nC1p : C1 ≠ p := b9.ne nC1
      have eZ10 := s10 _ _ eZ9
      have b10 := b9.same s10
      have t10 := t9.trans (Cor.Same.but s10)
      generalize upd H9 C1 (.lst ((W.take m).map V.str ++ [V.str ow])) = H10 at s10 eC1 eZ10 b10 t10 ⊢
      refine ⟨_, rfl, _, rfl, _, rfl, p, 2, rfl, b10, by decide, by decide, fun r11 H11 s11 b11 r110 r111 => ?_⟩
      obtain ⟨e, rfl⟩ := Int.eq_ofNat_of_zero_le r110
      have eZ11 := s11 _ _ nZp eZ10
      have eC11 := s11 _ _ nC1p eC1
      have t11 := t10.trans s11
      refine ⟨_, _, rfl, rfl, _, rfl, Z, _, rfl, SqL.of eZ11, fun R2 nR2 => ?_⟩
      rw [show (m : Int) + (e : Int) = ((m + e : Nat) : Int) from by omega, cut_dropV, ← List.map_drop]
      have s12 := same_upd (o := .lst ((W.drop (m + e)).map V.str)) nR2
      have eR2 : (upd H11 R2 (.lst ((W.drop (m + e)).map V.str))) R2 = some (.lst ((W.drop (m + e)).map V.str)) := upd_same
      have eC12 := s12 _ _ eC11
      have b12 := b11.same s12
      have t12 := t11.trans (Cor.Same.but s12)
      generalize upd H11 R2 (.lst ((W.drop (m + e)).map V.str)) = H12 at s12 eR2 eC12 b12 t12 ⊢
      refine ⟨C1, R2, _, _, rfl, rfl, eC12, eR2, ?_, fun C2 nC2 => ?_⟩
      · rw [List.length_append, List.length_map, List.length_map, List.length_take, List.length_drop, sizeLine_eq]
        show _ + 1 + _ ≤ _
        omega
      have s13 := same_upd (o := .lst ((W.take m).map V.str ++ [V.str ow] ++ (W.drop (m + e)).map V.str)) nC2
      have eC2 : (upd H12 C2 (.lst ((W.take m).map V.str ++ [V.str ow] ++ (W.drop (m + e)).map V.str))) C2 = some (.lst ((W.take m ++ [ow] ++ W.drop (m + e)).map V.str)) := by
        rw [upd_same, List.map_append, List.map_append]
        rfl
      have b13 := b12.same s13
      have t13 := t12.trans (Cor.Same.but s13)
      generalize upd H12 C2 (.lst ((W.take m).map V.str ++ [V.str ow] ++ (W.drop (m + e)).map V.str)) = H13 at s13 eC2 b13 t13 ⊢
      have res := word (i := m) (j := m + e) (wd := ow) (Nat.le_add_right _ _) (oth ow ozm)
      refine ⟨" ", C2, _, rfl, rfl, .inl (SqL.of eC2), ?_, q _ _ t13 b13 res⟩
      have len1 : (" " : Str).length = 1 := by decide +kernel
      have gl : (Txt.join " " (W.take m ++ [ow] ++ W.drop (m + e))).length = ((W.take m ++ [ow] ++ W.drop (m + e)).map (·.length)).sum + ((W.take m ++ [ow] ++ W.drop (m + e)).length - 1) * (" " : Str).length := size_glued " " _
      have rl := res.ll
      have lV : (W.take m ++ [ow] ++ W.drop (m + e)).length ≤ W.length + 1 := by
        rw [List.length_append, List.length_append, List.length_take, List.length_drop]
        show _ + 1 + _ ≤ _
        omega
      rw [len1] at gl ⊢
      have gl2 : ((W.take m ++ [ow] ++ W.drop (m + e)).map (·.length)).sum ≤ 2 * L + 6 := by omega
      have := Nat.add_le_add gl2 lV
      rw [Nat.mul_one]
      exact Nat.le_trans this (by omega)
end
end Law
set_option Elab.async false
set_option linter.all false
set_option maxRecDepth 100000
set_option maxHeartbeats 1000000
namespace Law
open PySem PySem.Spec PyProof.Rows L2 Cor
abbrev sRow8 : Stmt := topS 59
theorem scRow8 : FnScope ["_law_box_here", "_law_many", "_law_found_here", "_law_first", "_law_k", "_law_leaf_here"] ["_law_box_here", "_law_many"] (defScope sRow8) := ⟨rfl, rfl, rfl, by decide +kernel, rfl, by decide +kernel, by decide +kernel⟩
theorem rd_sml : ∀ {t : Tr}, Rd t → Sml t
  | .lf (.i _), h => log_small h
  | .lf (.b _), _ => True.intro
  | .nd _ _ _, h => ⟨log_small h.2.1, rd_sml h.2.2.1, rd_sml h.2.2.2⟩
theorem rd_bd : ∀ {t : Tr}, Rd t → BdR (emb t)
  | .lf (.i _), h => h
  | .lf (.b _), _ => True.intro
  | .nd _ _ _, h => ⟨h.2.1, rd_bd h.2.2.1, rd_bd h.2.2.2⟩
theorem emb_wt : ∀ t : Tr, wtR (emb t) = t.sz
  | .lf _ => rfl
  | .nd _ y o => by
    show 1 + wtR (emb y) + wtR (emb o) = y.sz + o.sz + 1
    rw [emb_wt y, emb_wt o]
    omega
theorem rd_shown {t : Tr} (h : Rd t) : t.d.shown.length ≤ 40 * t.sz := by
  have := shown_len (rd_bd h)
  rw [emb_d, emb_wt] at this
  rw [← len_cps]
  exact this
/-- the row so far: numbers above j, so many deep -/
structure RowI (j : Int) (i : Nat) (t : Tr) : Prop where
  rd : Rd t
  sn : sndE t j false = true
  dp : t.dep = i
  sz : t.sz = 2 * i + 1
theorem RowI.hom {j : Int} {i : Nat} {t : Tr} (h : RowI j i t) : t.hom false := snd_hom h.sn
theorem RowI.step {j n : Int} {i : Nat} {t : Tr} {m : Int} (h : RowI n i t) (hn : j < n) (h1 : 1 ≤ n) (hb : n.natAbs < 10 ^ 20) (hm : m.natAbs < 10 ^ 20) (ne : t ≠ .lf (.i m)) (b : Bool) :
    RowI j (i + 1) (if b = true then .nd n (.lf (.i m)) t else .nd n t (.lf (.i m))) := by
  have hl : Tr.hom false (.lf (.i m)) := show false = false from rfl
  have e1 : PyData.eqv t.d (Tr.lf (.i m)).d = false := by rw [eqv_tr h.hom hl]; exact decide_eq_false ne
  have e2 : PyData.eqv (Tr.lf (.i m)).d t.d = false := by rw [eqv_tr hl h.hom]; exact decide_eq_false fun z => ne z.symm
  have sl : sndE (.lf (.i m)) n false = true := rfl
  have dl : (Tr.lf (.i m)).dep = 0 := rfl
  have zl : (Tr.lf (.i m)).sz = 1 := rfl
  cases b with
  | true =>
    refine ⟨⟨h1, hb, hm, h.rd⟩, ?_, ?_, ?_⟩
    · show (if n ≤ j ∨ PyData.eqv (Tr.lf (.i m)).d t.d = true then false else sndE (.lf (.i m)) n false && sndE t n false) = true
      rw [if_neg (fun z => z.elim (by omega) (fun z => by rw [e2] at z; cases z)), sl, h.sn]
      rfl
    · show max (Tr.lf (.i m)).dep t.dep + 1 = i + 1
      rw [dl, h.dp]; omega
    · show (Tr.lf (.i m)).sz + t.sz + 1 = 2 * (i + 1) + 1
      rw [zl, h.sz]; omega
  | false =>
    refine ⟨⟨h1, hb, h.rd, hm⟩, ?_, ?_, ?_⟩
    · show (if n ≤ j ∨ PyData.eqv t.d (Tr.lf (.i m)).d = true then false else sndE t n false && sndE (.lf (.i m)) n false) = true
      rw [if_neg (fun z => z.elim (by omega) (fun z => by rw [e1] at z; cases z)), sl, h.sn]
      rfl
    · show max t.dep (Tr.lf (.i m)).dep + 1 = i + 1
      rw [dl, h.dp]; omega
    · show t.sz + (Tr.lf (.i m)).sz + 1 = 2 * (i + 1) + 1
      rw [zl, h.sz]; omega
def spLRow : Sp := fun vs H Q _ => ∃ (p : Addr) (m : Nat), vs = [.ref p, .int (m : Nat)] ∧ Box H p ∧ m ≤ 20 ∧
  ∀ (v : V) (t : Tr) (j : Int) (H' : Hp), SameBut p H H' → Box H' p → Tv H' v t → 0 ≤ j → RowI j m t → Q v H'
section
variable {P : Program} {w : World} {K : PySem.W.Frag} {mg : Str → Option Value} {base : Heap}
theorem ok_lRow {f : Addr} {fd : FuncData} (F : Fun K "_law_row" "_law_row" sRow8 f fd) (G : GloF mg) (dt : Df P w K mg base "_law_take" 1 ["_law_box_here", "_law_many"] spTk) (dl : Df P w K mg base "_law_leaf" 2 ["_law_box_here", "_law_is_truth"] spLeafL) : FnG P w K mg base CX0 3 f fd ["_law_box_here", "_law_many"] spLRow := by
  refine okG F scRow8 (k := 2) (fun vs H Q E h => ?_) (fun cdv A outer s H vs Q E hr gd h => ?_)
  · obtain ⟨p, m, rfl, _⟩ := h
    rfl
  · obtain ⟨p, m, rfl, hb, hm, q⟩ := h
    have T := G.toGloW
    refine ⟨_, (pss_cons (ps_par (i := 2) (j := 3) (by rfl) scRow8.nd rfl rfl (by decide) rfl rfl (pa_cons (pe_df (E := E0) dl hr (by rfl) (pa_cons (pv 0) (pa_cons pe_bl pa_nil))) (pa_cons (pe_op op_add pe_int (pe_df (E := E0) dt (hr.mono (by decide)) (by rfl) (pa_cons (pv 0) (pa_cons pe_int pa_nil)))) pa_nil)) (by rfl))
      (pss_cons (ps_for PassesOwn.never rfl (pi_range3 (by rfl) T.range (pa_cons (pv 1) (pa_cons pe_int (pa_cons (pe_un un_neg pe_int) pa_nil)))) (pg_name (i := 4) scRow8.nd rfl (Or.inl rfl)) (pss_cons (ps_set (i := 5) scRow8.nd rfl (Or.inl rfl) (pe_df (E := E0) dl hr (by rfl) (pa_cons (pv 0) (pa_cons pe_bl pa_nil))))
      (pss_cut (ps_if (pt_cmpR op_eq (pe_callB (call_reprD gd hr.units) (by rfl) G.repr (by decide +kernel) (pa_cons (pv 5) pa_nil)) (pe_callB (call_reprD gd hr.units) (by rfl) G.repr (by decide +kernel) (pa_cons (pv 2) pa_nil)) (nomark _)) (pss_one (ps_set (i := 5) scRow8.nd rfl (Or.inl rfl) (pe_op op_add (pv 5) pe_int))) pss_nil)
      (pss_one (ps_set (i := 2) scRow8.nd rfl (Or.inl rfl) (pe_ifExp (pt_cmpR op_eq (pe_df (E := E0) dt (hr.mono (by decide)) (by rfl) (pa_cons (pv 0) (pa_cons pe_int pa_nil))) pe_int (nomark _)) (pe_tup (pa_cons (pe_op op_add (pv 3) (pe_op op_mul pe_int (pv 4))) (pa_cons (pv 5) (pa_cons (pv 2) pa_nil)))) (pe_tup (pa_cons (pe_op op_add (pv 3) (pe_op op_mul pe_int (pv 4))) (pa_cons (pv 2) (pa_cons (pv 5) pa_nil))))))))))
      (pss_one (ps_ret (pv 2))))), ?_⟩
    refine ⟨_, rfl, p, false, rfl, hb, fun l H1 s1 b1 lg => ?_⟩
    refine ⟨_, rfl, p, 9, rfl, b1, by decide, by decide, fun r H2 s2 b2 r0 r1 => ⟨_, _, rfl, rfl, _, _, rfl, ?_⟩⟩
    have int_of : ∀ {l : Lf}, Lg false 66 l → ∃ n : Int, l = .i n ∧ n.natAbs < 2 ^ 66 := fun {l} h => by
      cases l with
      | i n => exact ⟨n, rfl, h.2⟩
      | b n => cases (show false = true from h)
    obtain ⟨n0, rfl, hn0⟩ := int_of lg
    have rg : RgC (m : Int) 0 (-1) m := by
      have := RgC.neg (i := (m : Int)) (j := 0) (by omega) (by omega) (by omega) (by omega)
      rwa [show ((m : Int) - 0).toNat = m from by omega] at this
    have t2 : SameBut p H H2 := s1.trans s2
    refine ⟨_, rfl, _, rfl, (m : Int), 0, -1, m, rfl, rg, for_rangeC (lo := (m : Int)) (c := -1) (n := m) (fun i σ H' => ∃ (v : V) (t : Tr) (z4 z5 : Option V), σ = [some (.ref p), some (.int (m : Nat)), some v, some (.int (1 + r)), z4, z5] ∧ SameBut p H2 H' ∧ Box H' p ∧ Tv H' v t ∧ RowI (1 + r + 2 * ((m : Int) - i)) i t) ⟨_, .lf (.i n0), _, _, rfl, SameBut.refl, b2, .lf (.i n0), show n0.natAbs < 10 ^ 20 by omega, rfl, rfl, rfl⟩ ?_ ?_⟩
    · rintro i σ H3 hi ⟨v, t, z4, z5, rfl, s3, b3, hv, ht⟩
      refine ⟨_, rfl, p, false, rfl, b3, fun l H4 s4 b4 lg4 => ?_⟩
      obtain ⟨n, rfl, hn⟩ := int_of lg4
      have hv4 := hv.kp (b3.kp s4)
      refine ⟨fun σ' H' => ∃ n' : Int, σ' = [some (.ref p), some (.int (m : Nat)), some v, some (.int (1 + r)), some (.int ((m : Int) + (i : Nat) * -1)), some (.int n')] ∧ H' = H4 ∧ n'.natAbs < 10 ^ 20 ∧ t ≠ .lf (.i n'), ?_, ?_⟩
      · have sm : n.natAbs.log2 < 1920 := log_small (by omega)
        have d1 := Sml.show (t := .lf (.i n)) sm
        have d2 := rd_shown ht.rd
        have d3 := rd_shown (t := .lf (.i n)) (show n.natAbs < 10 ^ 20 by omega)
        refine ⟨_, rfl, .int n, (Tr.lf (.i n)).d, rfl, .int n, d1, rfl, Nat.le_trans d3 (by rw [sizeLine_eq]; show 40 * 1 ≤ _; omega), (by show 0 ≤ 60; omega), ?_⟩
        refine ⟨_, rfl, v, t.d, rfl, hv4.dp, Sml.show (rd_sml ht.rd), t.d_noDict, Nat.le_trans d2 (by rw [ht.sz, sizeLine_eq]; omega), (by rw [t.d_depth, ht.dp]; omega), ?_⟩
        refine ⟨rfl, _, rfl, ?_⟩
        rw [shown_dec]
        refine ite2 (fun hb => ?_) (fun hb => ?_)
        · have e : Tr.lf (.i n) = t := of_decide_eq_true hb
          refine ⟨_, rfl, _, _, rfl, rfl, n + 1, rfl, rfl, by omega, fun z => ?_⟩
          rw [← e] at z
          have := Lf.i.inj (Tr.lf.inj z)
          omega
        · exact ⟨n, rfl, rfl, by omega, fun z => hb (decide_eq_true z.symm)⟩
      · rintro σ' H5 ⟨n', rfl, rfl, hn', ne⟩
        refine ⟨_, rfl, p, 2, rfl, b4, by decide, by decide, fun r6 H6 s6 b6 _ _ => ⟨rfl, _, rfl, ?_⟩⟩
        have hv6 := hv4.kp (b4.kp s6)
        have key : ∀ b : Bool, RowI (1 + r + 2 * ((m : Int) - ((i + 1 : Nat) : Int))) (i + 1) (if b = true then .nd (1 + r + 2 * ((m : Int) + (i : Nat) * -1)) (.lf (.i n')) t else .nd (1 + r + 2 * ((m : Int) + (i : Nat) * -1)) t (.lf (.i n'))) := fun b => by
          have ht' : RowI (1 + r + 2 * ((m : Int) + (i : Nat) * -1)) i t := by
            rw [show (1 + r + 2 * ((m : Int) + (i : Nat) * -1)) = 1 + r + 2 * ((m : Int) - i) from by omega]
            exact ht
          exact ht'.step (by omega) (by omega) (by omega) hn' ne b
        refine ite2 (fun _ => ?_) (fun _ => ?_)
        · refine ⟨_, rfl, _, rfl, _, _, rfl, rfl, .inl ⟨by decide, by decide⟩, _, _, rfl, rfl, _, rfl, _, rfl, (by show 3 ≤ sizeLine; decide), fun tp ntp => ?_⟩
          have s7 := same_upd (o := .tup [.int (1 + r + 2 * ((m : Int) + (i : Nat) * -1)), .int n', v]) ntp
          exact ⟨_, _, _, _, rfl, (s3.trans (s4.trans s6)).trans (Cor.Same.but s7), b6.same s7, .nd upd_same (.lf (.i n')) (hv6.same s7), key true⟩
        · refine ⟨_, rfl, _, rfl, _, _, rfl, rfl, .inl ⟨by decide, by decide⟩, _, _, rfl, rfl, _, rfl, _, rfl, (by show 3 ≤ sizeLine; decide), fun tp ntp => ?_⟩
          have s7 := same_upd (o := .tup [.int (1 + r + 2 * ((m : Int) + (i : Nat) * -1)), v, .int n']) ntp
          exact ⟨_, _, _, _, rfl, (s3.trans (s4.trans s6)).trans (Cor.Same.but s7), b6.same s7, .nd upd_same (hv6.same s7) (.lf (.i n')), key false⟩
    · rintro σ H3 ⟨v, t, z4, z5, rfl, s3, b3, hv, ht⟩
      exact ⟨_, rfl, q v t _ H3 (t2.trans s3) b3 hv (by omega) ht⟩
end
end Law
set_option Elab.async false
set_option linter.all false
set_option maxRecDepth 100000
set_option maxHeartbeats 1000000
namespace Law
open PySem PySem.Spec PyProof.Rows L2 Cor
theorem read_txt {t : Tr} (h : Rd t) (hs : sndE t 0 (leftB t) = true) (hd : t.dep ≤ 12) : readT (txt t) = some t := by
  have hl := lawT_txt h (txt_nonl h)
  have ak := (snd_all hs).1
  obtain ⟨q, hq⟩ := kinds_left t
  have hg : (∀ s ∈ kindsR (emb t), some s = (kindsR (emb t)).head?) ∧ (kindsR (emb t)).head? ≠ some "other" ∧ depR (emb t) ≤ 12 := by
    refine ⟨fun s hs => ?_, ?_, by rw [depR_emb]; exact hd⟩
    · rw [hq, List.head?_cons, ak s hs]
    · rw [hq, List.head?_cons]
      cases leftB t <;> decide +kernel
  have ho := lawOk_eq hl
  rw [if_pos hg] at ho
  obtain ⟨t', e, hr⟩ := read_of ho
  rw [hr, emb_inj e]
theorem read_deep {t : Tr} (h : Rd t) (hd : 12 < t.dep) : readT (txt t) = none := by
  refine read_none.mpr ?_
  rw [lawOk_eq (lawT_txt h (txt_nonl h)), if_neg]
  rintro ⟨_, _, z⟩
  rw [depR_emb] at z
  omega
/-- a row of so many, from k on -/
def chT : Nat → Nat → Tr
  | _, 0 => .lf (.i 1)
  | k, m + 1 => .nd ((k : Int) + 1) (.lf (.i 0)) (chT (k + 1) m)
theorem chT_dep : ∀ (m k : Nat), (chT k m).dep = m
  | 0, _ => rfl
  | m + 1, k => by
    show max 0 (chT (k + 1) m).dep + 1 = m + 1
    rw [chT_dep m (k + 1)]
    omega
theorem chT_rd : ∀ (m k : Nat), k + m ≤ 100000 → Rd (chT k m)
  | 0, _, _ => show (1 : Int).natAbs < 10 ^ 20 by decide
  | m + 1, k, h => ⟨by omega, by omega, show (0 : Int).natAbs < 10 ^ 20 by decide, chT_rd m (k + 1) (by omega)⟩
theorem chT_snd : ∀ (m k : Nat), sndE (chT k m) (k : Int) false = true
  | 0, _ => rfl
  | m + 1, k => by
    have ih := chT_snd m (k + 1)
    have e : PyData.eqv (Tr.lf (.i 0)).d (chT (k + 1) m).d = false := by
      cases m with
      | zero => rfl
      | succ m => rfl
    show (if (k : Int) + 1 ≤ k ∨ PyData.eqv (Tr.lf (.i 0)).d (chT (k + 1) m).d = true then false else sndE (.lf (.i 0)) ((k : Int) + 1) false && sndE (chT (k + 1) m) ((k : Int) + 1) false) = true
    rw [if_neg (fun z => z.elim (by omega) (fun z => by rw [e] at z; cases z)), show sndE (.lf (.i 0)) ((k : Int) + 1) false = true from rfl]
    rw [show ((k : Int) + 1) = ((k + 1 : Nat) : Int) from rfl, ih]
    rfl
theorem chT_left : ∀ (m k : Nat), leftB (chT k m) = false
  | 0, _ => rfl
  | _ + 1, _ => rfl
theorem sg_join0 (ps : List Str) : sg (Txt.join "" ps) = ps.flatMap sg := by
  have e : TL.tl ("" : Str) = [] := by decide +kernel
  show (Txt.join "" ps).cps.toList = _
  rw [TL.join_eq]
  show TL.tl (Str.join "" ps) = _
  rw [TL.tl_join, e]
  have : ∀ l : List (List Nat), TL.joinL [] l = l.flatten := fun l => by
    induction l with
    | nil => rfl
    | cons a r ih =>
      cases r with
      | nil => show a = a ++ []; simp
      | cons b r => rw [joinL_cons _ _ (by simp), ih]; rfl
  rw [this]
  rfl
theorem sg_repS : ∀ n : Nat, sg (repS ")" n) = List.replicate n 41 := fun n => by
  show (List.foldl (· ++ ·) (#[] : Array Nat) (List.replicate n (")" : Str).cps)).toList = _
  have : ∀ (n : Nat) (a : Array Nat), (List.foldl (· ++ ·) a (List.replicate n (")" : Str).cps)).toList = a.toList ++ List.replicate n 41 := fun n => by
    induction n with
    | zero => intro a; simp
    | succ n ih =>
      intro a
      rw [List.replicate_succ, List.foldl_cons, ih, Array.toList_append, show (")" : Str).cps.toList = [41] from sg_close, List.replicate_succ, List.append_assoc]
      rfl
  rw [this]
  rfl
theorem sg_piece (k : Nat) : sg (pieceX k) = [40] ++ (sg (num8 ((k : Int) + 1)) ++ [32, 63, 32, 48, 32, 58, 32]) := by
  show sg (("(" : Str) ++ Str.ofString (toString ((k : Int) + 1)) ++ (" ? 0 : " : Str)) = _
  rw [sg_app, sg_app, sg_open, show sg (" ? 0 : " : Str) = [32, 63, 32, 48, 32, 58, 32] from by decide +kernel, List.append_assoc]
  rfl
theorem sg_chT : ∀ (m k : Nat), sg (txt (chT k m)) = (List.range' k m).flatMap (fun j => sg (pieceX j)) ++ (sg ("1" : Str) ++ List.replicate m 41)
  | 0, k => by
    show sg (Str.ofString (toString (1 : Int))) = sg ("1" : Str)
    decide +kernel
  | m + 1, k => by
    rw [show chT k (m + 1) = .nd ((k : Int) + 1) (.lf (.i 0)) (chT (k + 1) m) from rfl, sg_txt, sg_chT m (k + 1), List.range'_succ, List.flatMap_cons, sg_piece, List.replicate_succ']
    rw [show sg (txt (.lf (.i 0))) = [48] from by decide +kernel]
    simp only [List.append_assoc]
    rfl
theorem chain_txt (m : Nat) : chainX m = txt (chT 0 m) := by
  refine TL.ext_tl ?_
  show sg (chainX m) = sg (txt (chT 0 m))
  rw [sg_chT, show chainX m = Txt.join "" ((List.range m).map pieceX) ++ ("1" : Str) ++ repS ")" m from rfl, sg_app, sg_app, sg_join0, sg_repS, List.append_assoc, List.range_eq_range', List.flatMap_map]
theorem chain_read {m : Nat} (h : m ≤ 12) : readT (chainX m) = some (chT 0 m) := by
  rw [chain_txt]
  refine read_txt (chT_rd m 0 (by omega)) ?_ (by rw [chT_dep]; exact h)
  rw [chT_left]
  exact chT_snd m 0
theorem chain_none {m : Nat} (h : 12 < m) (hm : m ≤ 2000) : readT (chainX m) = none := by
  rw [chain_txt]
  exact read_deep (chT_rd m 0 (by omega)) (by rw [chT_dep]; exact h)
theorem txt_a7 : ∀ {t : Tr}, Rd t → A7 (txt t)
  | .lf l, h => fun c hc => (lf_signs h c hc).2.2.2.2
  | .nd n y o, h => fun c hc => by
    have hc : c ∈ sg (txt (.nd n y o)) := hc
    obtain ⟨_, h2, hy, ho⟩ := h
    rw [sg_txt] at hc
    simp only [List.mem_append, List.mem_cons, List.not_mem_nil, or_false] at hc
    rcases hc with hc | hc | hc | hc | hc | hc | hc
    · omega
    · exact (num_signs8 h2 c hc).2.2.2.2
    · rcases hc with hc | hc | hc <;> omega
    · exact txt_a7 hy c hc
    · rcases hc with hc | hc | hc <;> omega
    · exact txt_a7 ho c hc
    · omega
/-- how many brackets and blanks the text of a form has -/
theorem txt_counts : ∀ {t : Tr}, Rd t → (sg (txt t)).count 41 = t.nums.length ∧ (sg (txt t)).count 40 = t.nums.length ∧ (sg (txt t)).count 32 = 4 * t.nums.length
  | .lf l, h => by
    have := lf_signs h
    refine ⟨List.count_eq_zero.mpr fun z => (this 41 z).1 rfl, List.count_eq_zero.mpr fun z => (this 40 z).2.2.1 rfl, List.count_eq_zero.mpr fun z => (this 32 z).2.1 rfl⟩
  | .nd n y o, h => by
    obtain ⟨_, h2, hy, ho⟩ := h
    obtain ⟨a1, a2, a3⟩ := txt_counts hy
    obtain ⟨b1, b2, b3⟩ := txt_counts ho
    have := num_signs8 h2
    have n1 : (sg (num8 n)).count 41 = 0 := List.count_eq_zero.mpr fun z => (this 41 z).1 rfl
    have n2 : (sg (num8 n)).count 40 = 0 := List.count_eq_zero.mpr fun z => (this 40 z).2.2.1 rfl
    have n3 : (sg (num8 n)).count 32 = 0 := List.count_eq_zero.mpr fun z => (this 32 z).2.1 rfl
    have el : (Tr.nd n y o).nums.length = y.nums.length + o.nums.length + 1 := by
      show (n :: (y.nums ++ o.nums)).length = _
      rw [List.length_cons, List.length_append]
    rw [sg_txt, el]
    simp only [List.count_append, a1, a2, a3, b1, b2, b3, n1, n2, n3]
    have c1 : List.count 41 [40] = 0 := by decide
    have c2 : List.count 41 [32, 63, 32] = 0 := by decide
    have c3 : List.count 41 [32, 58, 32] = 0 := by decide
    have c4 : List.count 41 [41] = 1 := by decide
    have d1 : List.count 40 [40] = 1 := by decide
    have d2 : List.count 40 [32, 63, 32] = 0 := by decide
    have d3 : List.count 40 [32, 58, 32] = 0 := by decide
    have d4 : List.count 40 [41] = 0 := by decide
    have e1 : List.count 32 [40] = 0 := by decide
    have e2 : List.count 32 [32, 63, 32] = 2 := by decide
    have e3 : List.count 32 [32, 58, 32] = 2 := by decide
    have e4 : List.count 32 [41] = 0 := by decide
    rw [c1, c2, c3, c4, d1, d2, d3, d4, e1, e2, e3, e4]
    refine ⟨?_, ?_, ?_⟩ <;> omega
theorem txt_rn : ∀ {t : Tr}, Rd t → Rn t.dep (sg (txt t))
  | .lf l, h => Rn.of_count (by
    have := lf_signs h
    have e : (sg (txt (.lf l))).count 41 = 0 := List.count_eq_zero.mpr fun z => (this 41 z).1 rfl
    rw [e]
    exact Nat.zero_le _)
  | .nd n y o, h => by
    obtain ⟨_, h2, hy, ho⟩ := h
    have ry := txt_rn hy
    have ro := txt_rn ho
    have this := num_signs8 h2
    have n1 : (sg (num8 n)).count 41 = 0 := List.count_eq_zero.mpr fun z => (this 41 z).1 rfl
    have e : sg (txt (.nd n y o)) = ([40] ++ sg (num8 n)) ++ 32 :: ([63] ++ 32 :: (sg (txt y) ++ 32 :: ([58] ++ 32 :: (sg (txt o) ++ [41])))) := by
      rw [sg_txt]
      simp
    have hd : (Tr.nd n y o).dep = max y.dep o.dep + 1 := rfl
    rw [e, hd]
    refine Rn.blank (Rn.of_count ?_) (Rn.blank (Rn.of_count (by show 0 ≤ _; omega)) (Rn.blank (ry.mono (by omega)) (Rn.blank (Rn.of_count (by show 0 ≤ _; omega)) ?_)))
    · rw [List.count_append, n1]
      show 0 + 0 ≤ _
      omega
    · exact (ro.app (Rn.of_count (k := 1) (show [41].count 41 ≤ 1 by decide))).mono (by omega)
theorem good8 {t : Tr} (h : Rd t) (hd : t.dep ≤ 6) (hl : (txt t).length ≤ 50 * t.sz) (hs : t.sz = 2 * t.nums.length + 1) : Sq8 6 63 63 252 6400 (txt t) := by
  have h1 := sz_dep t
  have h2 : 2 ^ (t.dep + 1) ≤ 2 ^ 7 := Nat.pow_le_pow_right (by decide) (by omega)
  have h3 : 2 ^ 7 = 128 := by decide
  obtain ⟨c1, c2, c3⟩ := txt_counts h
  refine ⟨⟨txt_a7 h, ?_, ?_, ?_, by omega⟩, (txt_rn h).mono hd⟩
  · show (sg (txt t)).count 41 ≤ 63
    omega
  · show (sg (txt t)).count 40 ≤ 63
    omega
  · show (sg (txt t)).count 32 ≤ 252
    omega
theorem Cq.of {x : Str} {L : Nat} (h : (x.cps.toList.all fun c => decide (c < 128)) = true) (h1 : decide (ct 41 x ≤ 1) = true) (h2 : decide (ct 40 x ≤ 2) = true) (h3 : decide (ct 32 x ≤ 9) = true) (h4 : decide (x.length ≤ L) = true) : Cq 1 2 9 L x :=
  ⟨fun c hc => of_decide_eq_true (List.all_eq_true.mp h c hc), of_decide_eq_true h1, of_decide_eq_true h2, of_decide_eq_true h3, of_decide_eq_true h4⟩
/-- a figure, some times -/
theorem sg_rep (d : Nat) (x : Str) (hx : sg x = [d]) : ∀ n : Nat, sg (repS x n) = List.replicate n d := fun n => by
  show (List.foldl (· ++ ·) (#[] : Array Nat) (List.replicate n x.cps)).toList = _
  have : ∀ (n : Nat) (a : Array Nat), (List.foldl (· ++ ·) a (List.replicate n x.cps)).toList = a.toList ++ List.replicate n d := fun n => by
    induction n with
    | zero => intro a; simp
    | succ n ih =>
      intro a
      rw [List.replicate_succ, List.foldl_cons, ih, Array.toList_append, show x.cps.toList = [d] from hx, List.replicate_succ, List.append_assoc]
      rfl
  rw [this]
  rfl
theorem Cq.rep {d : Nat} {x : Str} (hx : sg x = [d]) (h1 : 45 < d) (h2 : d < 128) (n : Nat) : Cq 0 0 0 n (repS x n) := by
  have e := sg_rep d x hx n
  have z : ∀ c : Nat, c ≠ d → ct c (repS x n) = 0 := fun c hc => by
    show (sg (repS x n)).count c = 0
    rw [e]
    exact List.count_eq_zero.mpr fun z => hc (List.mem_replicate.mp z).2
  refine ⟨fun c hc => ?_, Nat.le_of_eq (z 41 (by omega)), Nat.le_of_eq (z 40 (by omega)), Nat.le_of_eq (z 32 (by omega)), ?_⟩
  · have hc : c ∈ sg (repS x n) := hc
    rw [e] at hc
    rw [(List.mem_replicate.mp hc).2]
    exact h2
  · rw [len_list, show (repS x n).cps.toList = List.replicate n d from e, List.length_replicate]
    exact Nat.le_refl _
end Law
set_option Elab.async false
set_option linter.all false
set_option maxRecDepth 100000
set_option maxHeartbeats 1000000
namespace Cor
open PySem PySem.Spec PyProof.Rows L2
def tIfT (t ta tb : TT) : TT := fun σ H Q => t σ H fun c H1 => if c = true then ta σ H1 Q else tb σ H1 Q
theorem pt_ifT {X : Cx} {c a b : Expr} {tA ta tb : TT} {pos : Pos} (hc : PT X c tA) (ha : PT X a ta) (hb : PT X b tb) : PT X (.IfExp c a b pos) (tIfT tA ta tb) := by
  refine ⟨fun pins s σ H Q I h => ?_⟩
  refine isTrue_IfExp (thn (hc.run pins s σ H _ I h) fun d s1 ⟨H1, I1, q1⟩ => ?_)
  cases d with
  | true => exact ha.run pins s1 σ H1 Q I1 q1
  | false => exact hb.run pins s1 σ H1 Q I1 q1
end Cor
set_option Elab.async false
set_option linter.all false
set_option maxRecDepth 100000
set_option maxHeartbeats 2000000
namespace Law
open PySem PySem.Spec PyProof.Rows L2 Cor LamX NdefX
abbrev sLaw : Stmt := topS 60
theorem scLaw : FnScope ["_law_script", "_law_many", "_law_k", "_law_box_here", "_law_numbers_here", "_law_figure_here", "_law_deep_here", "_law_form_here", "_law_found_here", "_law_texts", "_law_turn", "_law_good", "_law_text_here", "_law_more_here"] ["_law_script"] (defScope sLaw) := ⟨rfl, rfl, rfl, by decide +kernel, rfl, by decide +kernel, by decide +kernel⟩
def spLaw (K : PySem.W.Frag) (T : List (Addr × Str)) : Sp := fun vs H Q _ => ∃ (a : Addr) (ns : List Int), vs = [.ref a] ∧ SqL K H a (ns.map V.int) ∧ ns.length ≤ 63 ∧ Tabs T H ∧ ∀ H', Q (.bl true) H'
theorem Cq.tx8 {c o b L : Nat} {x : Str} (h : Cq c o b L x) (h1 : c ≤ 170) (h2 : b + o + c + 1 ≤ 2500) (h3 : L ≤ 200000) : Tx8 x :=
  ⟨h.a, Nat.le_trans h.ll h3, Nat.le_trans h.words.1 h2, Nat.le_trans h.words.2 h1⟩
theorem small_nums : ∀ {t : Tr}, Rd t → ∀ n ∈ t.nums, n.natAbs < 10 ^ 20
  | .lf l, _, n, hn => by cases hn
  | .nd j y o, hr, n, hn => by
    rcases List.mem_cons.mp hn with e | e
    · rw [e]; exact hr.2.1
    · rcases List.mem_append.mp e with e | e
      · exact small_nums hr.2.2.1 n e
      · exact small_nums hr.2.2.2 n e
theorem RowI.cn {j : Int} {i : Nat} {t : Tr} (h : RowI j i t) (hi : i ≤ 100) : ∃ S, Asc S ∧ S.length ≤ 200 ∧ Cn (Lg false 67) S t ∧ ∀ n ∈ S, n.natAbs < 2 ^ 1900 := by
  obtain ⟨S, h1, h2, h3⟩ := sort_ex t.nums
  have hz := h.sz
  rw [sz_nums] at hz
  exact ⟨S, h1, by omega, cn_all h1 (fun n hn => (h2 n).mpr hn) (snd_up h.sn) (snd_nq h.sn) (rd_all h.rd h.hom), fun n hn => Nat.lt_trans (small_nums h.rd n ((h2 n).mp hn)) (by decide +kernel)⟩
theorem cn_rd {k : Bool} : ∀ {S : List Int} {t : Tr}, (∀ n ∈ S, 1 ≤ n ∧ n < 2 ^ 66) → Cn (Lg k 66) S t → Rd t
  | S, .lf (.i n), _, h => Nat.lt_trans h.lf_of.2 (by decide)
  | S, .lf (.b n), _, _ => True.intro
  | [], .nd _ _ _, _, h => h.elim
  | s :: S, .nd n y o, hs, h => by
    have hs' : ∀ n ∈ S, 1 ≤ n ∧ n < 2 ^ 66 := fun n hn => hs n (List.mem_cons_of_mem _ hn)
    rcases h with ⟨h1, _, h3, h4⟩ | h
    · have := hs s List.mem_cons_self
      exact ⟨by omega, by omega, cn_rd hs' h3, cn_rd hs' h4⟩
    · exact cn_rd (S := S) hs' h
def txA (fx : Str) : List Str := ["", " ", "()", "yes", "no", "-0", "00", "+1", repS fx 20, repS fx 21, repS fx 5000]
def txB (fx : Str) : List Str := ["-" ++ repS fx 20, "(0 ? 1 : 2)", "(1 ? 1 : 1)", "(1 ? yes : 1)", "(2 ? (1 ? 3 : 4) : 5)"]
def txC (fx : Str) : List Str := ["(" ++ repS fx 20 ++ " ? 1 : 2)", "(" ++ repS fx 21 ++ " ? 1 : 2)"]
def txD : List Str := ["(1 ? (1 ? 3 : 4) : 5)", "(-1 ? 1 : 2)", "(yes ? 1 : 2)"]
theorem cz {x : Str} (h : (x.cps.toList.all fun c => decide (c < 128)) = true ∧ decide (ct 41 x ≤ 2) = true ∧ decide (ct 40 x ≤ 2) = true ∧ decide (ct 32 x ≤ 9) = true ∧ decide (x.length ≤ 40) = true) : Cq 2 2 9 40 x :=
  ⟨fun c hc => of_decide_eq_true (List.all_eq_true.mp h.1 c hc), of_decide_eq_true h.2.1, of_decide_eq_true h.2.2.1, of_decide_eq_true h.2.2.2.1, of_decide_eq_true h.2.2.2.2⟩
theorem base8_ok {fx : Str} {d : Nat} (hx : sg fx = [d]) (h1 : 45 < d) (h2 : d < 128) : ∀ x ∈ txA fx ++ txB fx ++ txC fx ++ txD, Tx8 x := by
  have r20 := Cq.rep hx h1 h2 20
  have r21 := Cq.rep hx h1 h2 21
  have r50 := Cq.rep hx h1 h2 5000
  have c1 : Cq 2 2 9 40 ("-" : Str) := cz (by decide +kernel)
  have c2 : Cq 2 2 9 40 ("(" : Str) := cz (by decide +kernel)
  have c3 : Cq 2 2 9 40 (" ? 1 : 2)" : Str) := cz (by decide +kernel)
  have con : ∀ x ∈ (["", " ", "()", "yes", "no", "-0", "00", "+1", "(0 ? 1 : 2)", "(1 ? 1 : 1)", "(1 ? yes : 1)", "(2 ? (1 ? 3 : 4) : 5)", "(1 ? (1 ? 3 : 4) : 5)", "(-1 ? 1 : 2)", "(yes ? 1 : 2)"] : List Str), Tx8 x := fun x hx => by
    have : ∀ x ∈ (["", " ", "()", "yes", "no", "-0", "00", "+1", "(0 ? 1 : 2)", "(1 ? 1 : 1)", "(1 ? yes : 1)", "(2 ? (1 ? 3 : 4) : 5)", "(1 ? (1 ? 3 : 4) : 5)", "(-1 ? 1 : 2)", "(yes ? 1 : 2)"] : List Str), (x.cps.toList.all fun c => decide (c < 128)) = true ∧ decide (ct 41 x ≤ 2) = true ∧ decide (ct 40 x ≤ 2) = true ∧ decide (ct 32 x ≤ 9) = true ∧ decide (x.length ≤ 40) = true := by decide +kernel
    exact (cz (this x hx)).tx8 (by decide) (by decide) (by decide)
  intro x hx
  unfold txA txB txC txD at hx
  simp only [List.cons_append, List.nil_append, List.mem_cons, List.not_mem_nil, or_false] at hx
  rcases hx with e | e | e | e | e | e | e | e | e | e | e | e | e | e | e | e | e | e | e | e | e
  · exact con x (by rw [e]; simp)
  · exact con x (by rw [e]; simp)
  · exact con x (by rw [e]; simp)
  · exact con x (by rw [e]; simp)
  · exact con x (by rw [e]; simp)
  · exact con x (by rw [e]; simp)
  · exact con x (by rw [e]; simp)
  · exact con x (by rw [e]; simp)
  · rw [e]; exact r20.tx8 (by decide) (by decide) (by decide)
  · rw [e]; exact r21.tx8 (by decide) (by decide) (by decide)
  · rw [e]; exact r50.tx8 (by decide) (by decide) (by decide)
  · rw [e]; exact (c1.app r20).tx8 (by decide) (by decide) (by decide)
  · exact con x (by rw [e]; simp)
  · exact con x (by rw [e]; simp)
  · exact con x (by rw [e]; simp)
  · exact con x (by rw [e]; simp)
  · rw [e]; exact ((c2.app r20).app c3).tx8 (by decide) (by decide) (by decide)
  · rw [e]; exact ((c2.app r21).app c3).tx8 (by decide) (by decide) (by decide)
  · exact con x (by rw [e]; simp)
  · exact con x (by rw [e]; simp)
  · exact con x (by rw [e]; simp)
def St8 : Nat → Str → Prop
  | 0, x => Sq8 6 63 63 252 6400 x
  | 1, x => Sq8 13 69 127 253 12806 x
  | 2, x => Sq8 27 82 255 254 25618 x
  | _ + 3, x => Sq8 55 109 511 255 51242 x
theorem St8.tx : ∀ {i : Nat} {x : Str}, St8 i x → Tx8 x
  | 0, x, h => (show Sq8 6 63 63 252 6400 x from h).toCq.tx8 (by decide) (by decide) (by decide)
  | 1, x, h => (show Sq8 13 69 127 253 12806 x from h).toCq.tx8 (by decide) (by decide) (by decide)
  | 2, x, h => (show Sq8 27 82 255 254 25618 x from h).toCq.tx8 (by decide) (by decide) (by decide)
  | _ + 3, x, h => (show Sq8 55 109 511 255 51242 x from h).toCq.tx8 (by decide) (by decide) (by decide)
theorem St8.next {i : Nat} {x : Str} (h : St8 i x) (hi : i < 3) : ∃ k c o b L, Sq8 k c o b L x ∧ L ≤ 50000 ∧ ∀ y, Sq8 (2 * k + 1) (c + max k 1) (2 * o + 1) (b + 1) (2 * L + 6) y → St8 (i + 1) y := by
  match i, h, hi with
  | 0, h, _ => exact ⟨6, 63, 63, 252, 6400, h, by decide, fun y hy => hy⟩
  | 1, h, _ => exact ⟨13, 69, 127, 253, 12806, h, by decide, fun y hy => hy⟩
  | 2, h, _ => exact ⟨27, 82, 255, 254, 25618, h, by decide, fun y hy => hy⟩
theorem SbT.new {p D : Addr} {H1 H' : Hp} {o : HO} (h : SbT p H1 H') (nD : H1 D = none) : SbT p H1 (upd H' D o) := fun b ob n m e => by
  rw [upd_ne (fun z => by rw [z, nD] at e; cases e)]
  exact h b ob n m e
section
variable {P : Program} {w : World} {K : PySem.W.Frag} {mg : Str → Option Value} {base : Heap} {C : Addr}
theorem ok_law {f : Addr} {fd : FuncData} {T0 : List (Addr × Str)} (Fn : Fun K "law" "law" sLaw f fd) (G : GloF mg) (GP : GloP K mg) (W : WCl K mg C) (kt : PySem.W.kitOne K (.type "tuple") (.ref C) = some false)
    (dt : Df P w K mg base "_law_take" 1 ["_law_box_here", "_law_many"] spTk) (db : Df P w K mg base "_law_box" 1 ["_law_script", "_law_k", "_law_own"] (spBox K))
    (dn : Df P w K mg base "_law_numbers" 2 ["_law_box_here", "_law_many"] spNums9) (dr : Df P w K mg base "_law_raw" 10 ["_law_box_here", "_law_numbers_here", "_law_is_truth", "_law_deep_here"] (spRaw 7)) (dfm : DfG P w K mg base "_law_form" 20 ["_law_numbers_here", "_law_raw_here"] (spForm T0))
    (dtx : Df P w K mg base "_law_text" 17 ["_law_tree_here"] (spText9 16)) (dto : Df P w K mg base "_law_told" 25 ["_law_text_here"] (spTold8 C)) (dch : Df P w K mg base "_law_chain" 1 ["_law_many"] spChain8)
    (drw : DfG P w K mg base "_law_row" 3 ["_law_box_here", "_law_many"] spLRow) (dsp : Df P w K mg base "_law_spoilt" 2 ["_law_box_here", "_law_text_here"] spSpoil8) (dmx : Df P w K mg base "_law_mixed" 2 ["_law_box_here", "_law_items"] spMixed)
    (dis : DfG P w K mg base "_law_is" 28 ["_law_worth", "_law_tree_here"] (spIs9 C)) (drt : DfG P w K mg base "_law_right" 173 ["_law_text_here"] spRight8) :
    FnG P w K mg base CX0 175 f fd ["_law_script"] (spLaw K T0) := by
  refine okG Fn scLaw (k := 174) (fun vs H Q E h => ?_) (fun cdv A outer s H vs Q E hr gd h => ?_)
  · obtain ⟨a, ns, rfl, _⟩ := h
    rfl
  · obtain ⟨a, ns, rfl, hS, hl, hT, q⟩ := h
    have T := G.toGloW
    refine ⟨_, (pss_cons (ps_for PassesOwn.never rfl (pi_tup (pe_tup (pa_cons pe_int (pa_cons pe_int (pa_cons pe_int (pa_cons pe_int (pa_cons pe_int pa_nil))))))) (pg_name (i := 1) scLaw.nd rfl (Or.inl rfl)) (pss_one (ps_if (pt_cmpR op_ne (pe_callB (id := "isinstance") (show CallR _ (.builtin "isinstance") (rIsi K) from call_isi) (by rfl) T.isinstance (by decide +kernel) (pa_cons (pe_df (E := E0) dto (hr.mono (by decide)) (by rfl) (pa_cons (pe_df (E := E0) dch (hr.mono (by decide)) (by rfl) (pa_cons (pv 1) pa_nil)) pa_nil)) (pa_cons (pe_glob (v := .ref C) (by rfl) W.nm rfl) pa_nil))) (pe_cmpR op_lt (pv 1) pe_int (nomark _)) (nomark _)) (pss_one (ps_ret pe_bl)) pss_nil)))
      (pss_cons (ps_for PassesOwn.never rfl (pi_range1 (by rfl) T.range (pa_cons (pe_callB (call_max2 rfl) (by rfl) T.max (by decide +kernel) (pa_cons pe_int (pa_cons (pe_callB (call_min2 rfl) (by rfl) T.min (by decide +kernel) (pa_cons pe_int (pa_cons (pe_callB call_len_seq (by rfl) T.len PySem.boot_len (pa_cons (pv 0) pa_nil)) pa_nil))) pa_nil))) pa_nil)) (pg_name (i := 2) scLaw.nd rfl (Or.inl rfl)) (pss_cons (ps_set (i := 3) scLaw.nd rfl (Or.inl rfl) (pe_df (E := E0) db (hr.mono (by decide)) (by rfl) (pa_cons (pv 0) (pa_cons (pv 2) (pa_cons pe_int pa_nil)))))
      (pss_cons (ps_set (i := 4) scLaw.nd rfl (Or.inl rfl) (pe_df (E := E0) dn (hr.mono (by decide)) (by rfl) (pa_cons (pv 3) (pa_cons (pe_op op_add pe_int (pe_df (E := E0) dt (hr.mono (by decide)) (by rfl) (pa_cons (pv 3) (pa_cons pe_int pa_nil)))) pa_nil))))
      (pss_cons (ps_par (i := 5) (j := 6) (by rfl) scLaw.nd rfl rfl (by decide) rfl rfl (pa_cons (pe_callTy call_str_int (by rfl) T.str (by decide +kernel) (pa_cons (pe_op op_add pe_int (pe_df (E := E0) dt (hr.mono (by decide)) (by rfl) (pa_cons (pv 3) (pa_cons pe_int pa_nil)))) pa_nil)) (pa_cons (pe_op op_add pe_int (pe_df (E := E0) dt (hr.mono (by decide)) (by rfl) (pa_cons (pv 3) (pa_cons pe_int pa_nil)))) pa_nil)) (by rfl))
      (pss_cons (ps_set (i := 7) scLaw.nd rfl (Or.inl rfl) (pe_dfG (E := E0) drw (hr.mono (by decide)) gd (by rfl) (pa_cons (pv 3) (pa_cons (pv 6) pa_nil))))
      (pss_cut (ps_set (i := 8) scLaw.nd rfl (Or.inl rfl) (pe_df (E := E0) dto (hr.mono (by decide)) (by rfl) (pa_cons (pe_df (E := E0) dtx (hr.mono (by decide)) (by rfl) (pa_cons (pv 7) pa_nil)) pa_nil)))
      (pss_cut (ps_if (pt_ifT (pt_cmpR op_gt (pv 6) pe_int (nomark _)) (pt_cmpR (op_neD hr.units) (pv 8) (pe_tup (pa_cons pe_str (pa_cons (pe_df (E := E0) dtx (hr.mono (by decide)) (by rfl) (pa_cons (pv 7) pa_nil)) pa_nil))) (nomark _)) (pt_not (pt_val (pe_dfG (E := E0) dis (hr.mono (by decide)) gd (by rfl) (pa_cons (pv 8) (pa_cons (pv 7) pa_nil)))))) (pss_one (ps_ret pe_bl)) pss_nil)
      (pss_cons (ps_set (i := 9) scLaw.nd rfl (Or.inl rfl) (pe_lst (pa_cons pe_str (pa_cons pe_str (pa_cons pe_str (pa_cons pe_str (pa_cons pe_str (pa_cons pe_str (pa_cons pe_str (pa_cons pe_str (pa_cons (pe_op op_mulB (pv 5) pe_int) (pa_cons (pe_op op_mulB (pv 5) pe_int) (pa_cons (pe_op op_mulB (pv 5) pe_int) pa_nil)))))))))))))
      (pss_cons (ps_expr (pe_bm PySem.F.plainAttrs_list PySem.F.slot_list_extend PySem.F.type_list_extend mt_extend (pv 9) (pa_cons (pe_lst (pa_cons (pe_op op_add_str pe_str (pe_op op_mulB (pv 5) pe_int)) (pa_cons pe_str (pa_cons pe_str (pa_cons pe_str (pa_cons pe_str pa_nil)))))) pa_nil)))
      (pss_cons (ps_expr (pe_bm PySem.F.plainAttrs_list PySem.F.slot_list_extend PySem.F.type_list_extend mt_extend (pv 9) (pa_cons (pe_lst (pa_cons (pe_op op_add_str (pe_op op_add_str pe_str (pe_op op_mulB (pv 5) pe_int)) pe_str) (pa_cons (pe_op op_add_str (pe_op op_add_str pe_str (pe_op op_mulB (pv 5) pe_int)) pe_str) pa_nil))) pa_nil)))
      (pss_cons (ps_expr (pe_bm PySem.F.plainAttrs_list PySem.F.slot_list_extend PySem.F.type_list_extend mt_extend (pv 9) (pa_cons (pe_lst (pa_cons pe_str (pa_cons pe_str (pa_cons pe_str pa_nil)))) pa_nil)))
      (pss_cons (ps_for PassesOwn.never rfl (pi_range1 (by rfl) T.range (pa_cons pe_int pa_nil)) (pg_name (i := 10) scLaw.nd rfl (Or.inl rfl)) (pss_cons (ps_set (i := 11) scLaw.nd rfl (Or.inl rfl) (pe_df (E := E0) dtx (hr.mono (by decide)) (by rfl) (pa_cons (pe_dfG (E := E0) dfm (hr.mono (by decide)) gd (by rfl) (pa_cons (pv 4) (pa_cons (pe_df (E := E0) dr (hr.mono (by decide)) (by rfl) (pa_cons (pv 3) (pa_cons (pv 4) (pa_cons (pe_cmpR op_eq (pe_df (E := E0) dt (hr.mono (by decide)) (by rfl) (pa_cons (pv 3) (pa_cons pe_int pa_nil))) pe_int (nomark _)) (pa_cons (pe_op op_add pe_int (pe_df (E := E0) dt (hr.mono (by decide)) (by rfl) (pa_cons (pv 3) (pa_cons pe_int pa_nil)))) pa_nil))))) pa_nil))) pa_nil)))
      (pss_cons (ps_set (i := 12) scLaw.nd rfl (Or.inl rfl) (pv 11))
      (pss_cons (ps_expr (pe_bm PySem.F.plainAttrs_list PySem.F.slot_list_extend PySem.F.type_list_extend mt_extend (pv 9) (pa_cons (pe_lst (pa_cons (pv 11) (pa_cons (pe_op op_add_str pe_str (pv 11)) (pa_cons (pe_op op_add_str (pv 11) pe_str) (pa_cons (pe_op op_add_str (pe_op op_add_str pe_str (pv 11)) pe_str) (pa_cons (pe_op op_add_str (pv 11) pe_str) pa_nil)))))) pa_nil)))
      (pss_one (ps_for PassesOwn.never rfl (pi_range1 (by rfl) T.range (pa_cons pe_int pa_nil)) (pg_name (i := 13) scLaw.nd rfl (Or.inl rfl)) (pss_cons (ps_set (i := 12) scLaw.nd rfl (Or.inl rfl) (pe_df (E := E0) dsp (hr.mono (by decide)) (by rfl) (pa_cons (pv 3) (pa_cons (pv 12) pa_nil))))
      (pss_one (ps_expr (pe_bm PySem.F.plainAttrs_list PySem.F.slot_list_append PySem.F.type_list_append mt_append (pv 9) (pa_cons (pv 12) pa_nil)))))))))))
      (pss_one (ps_for PassesOwn.never rfl (pi_list (pe_df (E := E0) dmx (hr.mono (by decide)) (by rfl) (pa_cons (pv 3) (pa_cons (pv 9) pa_nil)))) (pg_name (i := 12) scLaw.nd rfl (Or.inl rfl)) (pss_one (ps_if (pt_not (pt_val (pe_dfG (E := E0) drt (hr.mono (by decide)) gd (by rfl) (pa_cons (pv 12) pa_nil)))) (pss_one (ps_ret pe_bl)) pss_nil))))))))))))))))
      (pss_one (ps_ret pe_bl)))), ?_⟩
    refine ⟨(by show 5 ≤ sizeLine; decide), fun tq ntq => ?_⟩
    have s0 := same_upd (o := .tup [.int 12, .int 13, .int 14, .int 40, .int 1200]) ntq
    have e0 : (upd H tq (.tup [.int 12, .int 13, .int 14, .int 40, .int 1200])) tq = some (.tup [.int 12, .int 13, .int 14, .int 40, .int 1200]) := upd_same
    generalize upd H tq (.tup [.int 12, .int 13, .int 14, .int 40, .int 1200]) = H00 at s0 e0 ⊢
    refine ⟨tq, rfl, ⟨_, SqT.of e0⟩, for_tup (xs := [.int 12, .int 13, .int 14, .int 40, .int 1200]) (fun i σ H' => (∃ z1 z2 z3 z4 z5 z6 z7 z8 z9 z10 z11 z12 z13 : Option V, σ = [some (.ref a), z1, z2, z3, z4, z5, z6, z7, z8, z9, z10, z11, z12, z13]) ∧ Same H00 H') ⟨⟨_, _, _, _, _, _, _, _, _, _, _, _, _, rfl⟩, fun _ _ z => z⟩ ?_ ?_ ?_⟩
    · rintro i σ H' _ ⟨_, s⟩
      exact SqT.of (s _ _ e0)
    · rintro i x σ H1 hx ⟨⟨z1, z2, z3, z4, z5, z6, z7, z8, z9, z10, z11, z12, z13, rfl⟩, s1⟩
      obtain ⟨m, rfl, hm⟩ : ∃ m : Nat, x = .int (m : Nat) ∧ m ≤ 2000 := by
        match i, hx with
        | 0, hx => exact ⟨12, (Option.some.inj hx).symm, by decide⟩
        | 1, hx => exact ⟨13, (Option.some.inj hx).symm, by decide⟩
        | 2, hx => exact ⟨14, (Option.some.inj hx).symm, by decide⟩
        | 3, hx => exact ⟨40, (Option.some.inj hx).symm, by decide⟩
        | 4, hx => exact ⟨1200, (Option.some.inj hx).symm, by decide⟩
        | _ + 5, hx => exact nomatch hx
      have hch : A7 (chainX m) ∧ (chainX m).length ≤ 1000000 := by
        have rd := chT_rd m 0 (by omega)
        rw [chain_txt]
        refine ⟨txt_a7 rd, Nat.le_trans (txt_len9 rd) ?_⟩
        have : ∀ (m k : Nat), (chT k m).sz = 2 * m + 1 := fun m => by
          induction m with
          | zero => intro k; rfl
          | succ m ih =>
            intro k
            show 1 + (chT (k + 1) m).sz + 1 = _
            rw [ih]
            omega
        rw [this]
        omega
      refine ⟨_, rfl, m, rfl, hm, fun H2 s2 => ?_⟩
      refine ⟨chainX m, rfl, hch.1, hch.2, fun t ht wa H3 s3 na hw => ?_, fun hn p H3 s3 ep => ?_⟩
      · have h12 : m ≤ 12 := Nat.not_lt.mp fun z => by rw [chain_none z hm] at ht; cases ht
        refine ⟨_, _, _, _, _, rfl, .own C, W.ty hw, W.kw, _, rfl, _, _, rfl, rfl, rfl, _, rfl, ?_⟩
        have e1 : decide ((m : Int) < 13) = true := decide_eq_true (by omega)
        refine iteF' (by simp only [e1]; simp) ?_
        exact ⟨⟨_, _, _, _, _, _, _, _, _, _, _, _, _, rfl⟩, fun b o z => s3 b o (s2 b o (s1 b o z))⟩
      · have h12 : 12 < m := Nat.not_le.mp fun z => by rw [chain_read z] at hn; cases hn
        refine ⟨_, _, _, _, _, rfl, .own C, .base (.tup ep), kt, _, rfl, _, _, rfl, rfl, rfl, _, rfl, ?_⟩
        have e1 : decide ((m : Int) < 13) = false := decide_eq_false (by omega)
        refine iteF' (by simp only [e1]; simp) ?_
        exact ⟨⟨_, _, _, _, _, _, _, _, _, _, _, _, _, rfl⟩, fun b o z => s3 b o (s2 b o (s1 b o z))⟩
    rintro σ HX ⟨⟨z1, z2, z3, z4, z5, z6, z7, z8, z9, z10, z11, z12, z13, rfl⟩, sX0⟩
    have sX : Same H HX := fun b o z => sX0 b o (s0 b o z)
    have hSX : SqL K HX a (ns.map V.int) := sX.seq hS
    have hTX : Tabs T0 HX := Cor.Tabs.same hT sX
    refine ⟨_, rfl, a, _, rfl, .inl hSX, _, _, rfl, _, _, rfl, _, rfl, ?_, ?_, ?_⟩
    · rw [List.length_map]
      omega
    · rw [List.length_map]
      omega
    have hn : ∀ i : Nat, i < (Int.toNat (if (if ((ns.map V.int).length : Int) < 5 then ((ns.map V.int).length : Int) else 5) > 2 then (if ((ns.map V.int).length : Int) < 5 then ((ns.map V.int).length : Int) else 5) else 2)) → i < 6 := fun i hi => by
      rw [List.length_map] at hi
      omega
    refine for_range (lo := 0) (fun i σ H' => ∃ s1 s2 s3 s4 s5 s6 s7 s8 s9 s10 s11 s12 s13 : Option V, σ = [some (.ref a), s1, s2, s3, s4, s5, s6, s7, s8, s9, s10, s11, s12, s13] ∧ SqL K H' a (ns.map V.int) ∧ Tabs T0 H') ⟨_, _, _, _, _, _, _, _, _, _, _, _, _, rfl, hSX, hTX⟩ ?_ ?_
    rotate_left
    · rintro σ H' ⟨s1, s2, s3, s4, s5, s6, s7, s8, s9, s10, s11, s12, s13, rfl, _⟩
      exact q _
    rintro i σ H0 hi ⟨y1, y2, y3, y4, y5, y6, y7, y8, y9, y10, y11, y12, y13, rfl, hS0, hT0⟩
    have hi5 := hn i hi
    refine ⟨_, rfl, _, rfl, a, ns, _, _, rfl, hS0, hl, by omega, by omega, by decide, by decide, fun H1 p t1 np hb => ?_⟩
    have hT1 : Tabs T0 H1 := Cor.Tabs.same hT0 t1
    -- numbers
    refine ⟨_, rfl, _, rfl, p, 6, rfl, hb, by decide, by decide, fun r2 H2 t2 b2 r20 r21 => ⟨_, _, rfl, rfl, p, 1 + r2, rfl, b2, by omega, by omega, fun an H3 S t3 b3 nan en asc len rng => ?_⟩⟩
    have nep : an ≠ p := b2.ne nan
    have t13 : SbT p H1 H3 := (t2.trans t3).sbt
    have hT3 : Tabs T0 H3 := tabs_but (tabs_but hT1 hb t2) b2 t3
    have l6 : S.length ≤ 6 := by omega
    have nb : ∀ n ∈ S, n.natAbs < 2 ^ 1900 := fun n hn => by
      obtain ⟨h1, h2⟩ := rng n hn
      have h3 : n.natAbs < 2 ^ 66 := by omega
      exact Nat.lt_of_lt_of_le h3 (Nat.pow_le_pow_right (by decide) (by decide))
    -- a figure, how deep
    refine ⟨_, rfl, p, 9, rfl, b3, by decide, by decide, fun r4 H4 t4 b4 r40 r41 => ⟨_, _, rfl, rfl, 1 + r4, rfl, log_small (by omega), ?_⟩⟩
    refine ⟨_, rfl, p, 9, rfl, b4, by decide, by decide, fun r5 H5 t5 b5 r50 r51 => ⟨_, _, rfl, rfl, _, _, rfl, ?_⟩⟩
    obtain ⟨fg, hfg, hf1, hf2⟩ : ∃ d : Nat, sg (Str.ofString (toString (1 + r4))) = [d] ∧ 45 < d ∧ d < 128 := by
      have : ∀ k : Fin 9, ∃ d : Nat, sg (Str.ofString (toString (1 + ((k : Nat) : Int)))) = [d] ∧ 45 < d ∧ d < 128 := by
        intro k
        have h2 : ∀ k : Fin 9, (match sg (Str.ofString (toString (1 + ((k : Nat) : Int)))) with | [d] => decide (45 < d ∧ d < 128) | _ => false) = true := by decide +kernel
        have h3 := h2 k
        split at h3
        · rename_i d e
          exact ⟨d, e, of_decide_eq_true h3⟩
        · cases h3
      have := this ⟨r4.toNat, by omega⟩
      rwa [show (((⟨r4.toNat, by omega⟩ : Fin 9) : Nat) : Int) = r4 from by show ((r4.toNat : Nat) : Int) = r4; omega] at this
    generalize Str.ofString (toString (1 + r4)) = fx at hfg ⊢
    obtain ⟨n5, rfl⟩ := Int.eq_ofNat_of_zero_le r50
    have hdm20 : 7 + n5 ≤ 15 := by omega
    -- a row
    refine ⟨_, rfl, _, rfl, p, (7 + n5), rfl, b5, by omega, fun fv ft fj H6 t6 b6 hv6 hj6 ht6 => ?_⟩
    have t16 : SbT p H1 H6 := t13.trans (t4.trans (t5.trans t6)).sbt
    have hT6 : Tabs T0 H6 := tabs_but (tabs_but (tabs_but hT3 b3 t4) b4 t5) b5 t6
    have en6 : H6 an = some (.lst (S.map V.int)) := t6 _ _ nep (t5 _ _ nep (t4 _ _ nep en))
    have rdf := ht6.rd
    have hftl : (txt ft).length ≤ 1000000 := Nat.le_trans (txt_len9 rdf) (by rw [ht6.sz]; omega)
    have dpf := ht6.dp
    have lft : leftB ft = false := by
      have h1 := ht6.hom
      have : ∀ {t : Tr}, t.hom false → leftB t = false := fun {t} => by
        induction t with
        | lf l => intro h; cases l with
          | i n => rfl
          | b n => cases (show true = false from h.symm)
        | nd n y o i1 i2 => intro h; exact i1 h.1
      exact this h1
    refine ⟨fun σ' H' => ∃ fo : V, σ' = [some (.ref a), y1, some (.int (0 + i)), some (.ref p), some (.ref an), some (.str fx), some (.int (7 + n5 : Nat)), some fv, some fo, y9, y10, y11, y12, y13] ∧ Same H6 H' ∧ (((7 + n5) ≤ 12 ∧ ∃ wa, fo = .ref wa ∧ Wo C H' wa ft) ∨ (12 < (7 + n5) ∧ ∃ wa, fo = .ref wa ∧ H' wa = some (.tup [.str "refused", .str (txt ft)]))), ?_, ?_⟩
    · refine ⟨_, rfl, fv, ft, rfl, hv6, by omega, by rw [ht6.sz]; omega, rdf, ?_⟩
      refine ⟨txt ft, rfl, txt_a7 rdf, hftl, fun t ht wa H7 s7 na hw => ?_, fun hn p7 H7 s7 ep => ?_⟩
      · have h12 : (7 + n5) ≤ 12 := Nat.not_lt.mp fun z => by rw [read_deep rdf (by omega)] at ht; cases ht
        have sn0 : sndE ft 0 (leftB ft) = true := by
          rw [lft]
          have := ht6.sn
          have mono : ∀ {t : Tr} {j : Int}, 0 ≤ j → sndE t j false = true → sndE t 0 false = true := fun {t j} hj h => by
            cases t with
            | lf l => exact h
            | nd n y o =>
              unfold sndE at h ⊢
              split at h
              · cases h
              · rename_i hc
                rw [if_neg (fun z => hc (z.elim (fun z => .inl (by omega)) .inr))]
                exact h
          exact mono hj6 this
        have := read_txt rdf sn0 (by omega)
        rw [ht] at this
        obtain rfl := Option.some.inj this
        exact ⟨_, rfl, s7, .inl ⟨h12, wa, rfl, hw⟩⟩
      · have h12 : 12 < (7 + n5) := Nat.not_le.mp fun z => by
          have sn0 : sndE ft 0 (leftB ft) = true := by
            rw [lft]
            have := ht6.sn
            have mono : ∀ {t : Tr} {j : Int}, 0 ≤ j → sndE t j false = true → sndE t 0 false = true := fun {t j} hj h => by
              cases t with
              | lf l => exact h
              | nd n y o =>
                unfold sndE at h ⊢
                split at h
                · cases h
                · rename_i hc
                  rw [if_neg (fun z => hc (z.elim (fun z => .inl (by omega)) .inr))]
                  exact h
            exact mono hj6 this
          rw [read_txt rdf sn0 (by omega)] at hn
          cases hn
        exact ⟨_, rfl, s7, .inr ⟨h12, p7, rfl, ep⟩⟩
    rintro σ' H7 ⟨fo, rfl, s7, hfo⟩
    have hv7 := hv6.same s7
    have b7 := b6.same s7
    have hT7 : Tabs T0 H7 := Cor.Tabs.same hT6 s7
    have en7 := s7 _ _ en6
    have t17 : SbT p H1 H7 := t16.trans s7.sbt
    refine ⟨fun σ' H' => σ' = [some (.ref a), y1, some (.int (0 + i)), some (.ref p), some (.ref an), some (.str fx), some (.int (7 + n5 : Nat)), some fv, some fo, y9, y10, y11, y12, y13] ∧ Same H7 H', ?_, ?_⟩
    · refine ⟨_, rfl, _, _, rfl, rfl, _, rfl, ?_⟩
      rcases hfo with ⟨h12, wa, rfl, hw⟩ | ⟨h12, wa, rfl, ew⟩
      · rw [decide_eq_false (show ¬ (12 : Int) < ((7 + n5 : Nat) : Int) by omega)]
        have gdf := ht6.cn (by omega)
        obtain ⟨Sf, hSf, lSf, cSf, smf⟩ := gdf
        refine ⟨_, rfl, _, rfl, .ref wa, fv, ft, _, _, _, _, Sf, fun r => ft.ev r, rfl, ⟨wa, ft, rfl, hw, cSf, fun _ => rfl⟩, hv7, cSf, (fun _ => rfl), hSf, lSf, by omega, smf, by decide, by decide, fun H8 s8 => ⟨_, rfl, ?_⟩⟩
        exact ⟨rfl, s8⟩
      · rw [decide_eq_true (show (12 : Int) < ((7 + n5 : Nat) : Int) by omega)]
        refine ⟨_, rfl, _, rfl, fv, ft, rfl, hv7, by omega, by rw [ht6.sz]; omega, rdf, (by show 2 ≤ sizeLine; decide), fun pt npt => ?_⟩
        have sz := same_upd (o := .tup [V.str "refused", V.str (txt ft)]) npt
        refine ⟨.tuple [.str "refused", .str (txt ft)], .tuple [.str "refused", .str (txt ft)], .tup (SqT.of (sz _ _ ew)) (.cons (.str _) (.cons (.str _) .nil)), .tup (SqT.of upd_same) (.cons (.str _) (.cons (.str _) .nil)), refused_shaped (txt_a7 rdf), refused_shaped (txt_a7 rdf), _, rfl, ?_⟩
        rw [refused_eqv]
        exact ⟨rfl, sz⟩
    rintro σ' H8 ⟨rfl, s8⟩
    have b8 := b7.same s8
    have hT8 : Tabs T0 H8 := Cor.Tabs.same hT7 s8
    have en8 := s8 _ _ en7
    have t18 : SbT p H1 H8 := t17.trans s8.sbt
    have lfx : fx.length = 1 := by rw [len_list, show fx.cps.toList = [fg] from hfg]; rfl
    -- the texts
    refine ⟨_, rfl, fx, 20, rfl, rfl, by decide, lfx, _, rfl, fx, 21, rfl, rfl, by decide, lfx, _, rfl, fx, 5000, rfl, rfl, by decide, lfx, (by show 11 ≤ sizeLine; decide), fun D nD => ?_⟩
    have u18 : SameBut p H1 H8 := t2.trans (t3.trans (t4.trans (t5.trans (t6.trans ((Cor.Same.but s7).trans (Cor.Same.but s8))))))
    have nDp : D ≠ p := b8.ne nD
    have nDan : an ≠ D := fun z => by rw [← z, en8] at nD; cases nD
    have nD1 : H1 D = none := by
      cases hz : H1 D with
      | none => rfl
      | some o => rw [u18 _ _ nDp hz] at nD; cases nD
    have l20 := rep_len lfx 20
    have l21 := rep_len lfx 21
    have s9 := same_upd (o := .lst [V.str "", V.str " ", V.str "()", V.str "yes", V.str "no", V.str "-0", V.str "00", V.str "+1", V.str (repS fx 20), V.str (repS fx 21), V.str (repS fx 5000)]) nD
    have eD9 : (upd H8 D (.lst [V.str "", V.str " ", V.str "()", V.str "yes", V.str "no", V.str "-0", V.str "00", V.str "+1", V.str (repS fx 20), V.str (repS fx 21), V.str (repS fx 5000)])) D = some (.lst ((txA fx).map V.str)) := upd_same
    generalize upd H8 D (.lst [V.str "", V.str " ", V.str "()", V.str "yes", V.str "no", V.str "-0", V.str "00", V.str "+1", V.str (repS fx 20), V.str (repS fx 21), V.str (repS fx 5000)]) = H9 at s9 eD9 ⊢
    have b9 := b8.same s9
    have hT9 : Tabs T0 H9 := Cor.Tabs.same hT8 s9
    have t19 : SbT p H1 H9 := t18.trans s9.sbt
    have en9 := s9 _ _ en8
    have one1 : (("-" : Str)).length = 1 := by decide +kernel
    have one2 : (("(" : Str)).length = 1 := by decide +kernel
    have one3 : ((" ? 1 : 2)" : Str)).length = 9 := by decide +kernel
    -- what the texts' list may be changed to
    have chg : ∀ {Ha : Hp} {xs : List V} {o : HO}, SbT p H1 Ha → Box Ha p → Tabs T0 Ha → Ha an = some (.lst (S.map V.int)) → Ha D = some (.lst xs) → SbT p H1 (upd Ha D o) ∧ Box (upd Ha D o) p ∧ Tabs T0 (upd Ha D o) ∧ (upd Ha D o) an = some (.lst (S.map V.int)) := fun {Ha xs o} h1 h2 h3 h4 h5 =>
      ⟨SbT.new h1 nD1, box_upd h2 nDp, tabs_upd h3 h5, by rw [upd_ne nDan]; exact h4⟩
    refine ⟨_, rfl, .inl ⟨rfl, _, SqL.of eD9⟩, _, rfl, fx, 20, rfl, rfl, by decide, lfx, _, _, rfl, rfl, by rw [l20, one1]; decide, (by show 5 ≤ sizeLine; decide), fun E1 nE1 => ?_⟩
    have s10 := same_upd (o := .lst [V.str ("-" ++ repS fx 20), V.str "(0 ? 1 : 2)", V.str "(1 ? 1 : 1)", V.str "(1 ? yes : 1)", V.str "(2 ? (1 ? 3 : 4) : 5)"]) nE1
    have eE1 : (upd H9 E1 (.lst [V.str ("-" ++ repS fx 20), V.str "(0 ? 1 : 2)", V.str "(1 ? 1 : 1)", V.str "(1 ? yes : 1)", V.str "(2 ? (1 ? 3 : 4) : 5)"])) E1 = some (.lst ((txB fx).map V.str)) := upd_same
    generalize upd H9 E1 (.lst [V.str ("-" ++ repS fx 20), V.str "(0 ? 1 : 2)", V.str "(1 ? 1 : 1)", V.str "(1 ? yes : 1)", V.str "(2 ? (1 ? 3 : 4) : 5)"]) = H10 at s10 eE1 ⊢
    have eD10 := s10 _ _ eD9
    refine ⟨D, E1, (txA fx).map V.str, (txB fx).map V.str, rfl, rfl, eD10, eE1, by show 16 ≤ sizeLine; decide, ?_⟩
    obtain ⟨t11, b11, hT11, en11⟩ := chg (o := .lst ((txA fx).map V.str ++ (txB fx).map V.str)) (t19.trans s10.sbt) (b9.same s10) (Cor.Tabs.same hT9 s10) (s10 _ _ en9) eD10
    have eD11 : (upd H10 D (.lst ((txA fx).map V.str ++ (txB fx).map V.str))) D = some (.lst ((txA fx ++ txB fx).map V.str)) := by rw [upd_same, List.map_append]
    generalize upd H10 D (.lst ((txA fx).map V.str ++ (txB fx).map V.str)) = H11 at t11 b11 hT11 en11 eD11 ⊢
    refine ⟨_, rfl, .inl ⟨rfl, _, SqL.of eD11⟩, _, rfl, fx, 20, rfl, rfl, by decide, lfx, _, _, rfl, rfl, by rw [l20, one2]; decide, _, _, rfl, rfl, by rw [Str.length_append, l20, one2, one3]; decide, _, rfl, fx, 21, rfl, rfl, by decide, lfx, _, _, rfl, rfl, by rw [l21, one2]; decide, _, _, rfl, rfl, by rw [Str.length_append, l21, one2, one3]; decide, (by show 2 ≤ sizeLine; decide), fun E2 nE2 => ?_⟩
    have s12 := same_upd (o := .lst [V.str ("(" ++ repS fx 20 ++ " ? 1 : 2)"), V.str ("(" ++ repS fx 21 ++ " ? 1 : 2)")]) nE2
    have eE2 : (upd H11 E2 (.lst [V.str ("(" ++ repS fx 20 ++ " ? 1 : 2)"), V.str ("(" ++ repS fx 21 ++ " ? 1 : 2)")])) E2 = some (.lst ((txC fx).map V.str)) := upd_same
    generalize upd H11 E2 (.lst [V.str ("(" ++ repS fx 20 ++ " ? 1 : 2)"), V.str ("(" ++ repS fx 21 ++ " ? 1 : 2)")]) = H12 at s12 eE2 ⊢
    have eD12 := s12 _ _ eD11
    refine ⟨D, E2, (txA fx ++ txB fx).map V.str, (txC fx).map V.str, rfl, rfl, eD12, eE2, by show 18 ≤ sizeLine; decide, ?_⟩
    obtain ⟨t13', b13, hT13, en13⟩ := chg (o := .lst ((txA fx ++ txB fx).map V.str ++ (txC fx).map V.str)) (t11.trans s12.sbt) (b11.same s12) (Cor.Tabs.same hT11 s12) (s12 _ _ en11) eD12
    have eD13 : (upd H12 D (.lst ((txA fx ++ txB fx).map V.str ++ (txC fx).map V.str))) D = some (.lst ((txA fx ++ txB fx ++ txC fx).map V.str)) := by rw [upd_same, List.map_append (l₁ := txA fx ++ txB fx)]
    generalize upd H12 D (.lst ((txA fx ++ txB fx).map V.str ++ (txC fx).map V.str)) = H13 at t13' b13 hT13 en13 eD13 ⊢
    refine ⟨_, rfl, .inl ⟨rfl, _, SqL.of eD13⟩, (by show 3 ≤ sizeLine; decide), fun E3 nE3 => ?_⟩
    have s14 := same_upd (o := .lst [V.str "(1 ? (1 ? 3 : 4) : 5)", V.str "(-1 ? 1 : 2)", V.str "(yes ? 1 : 2)"]) nE3
    have eE3 : (upd H13 E3 (.lst [V.str "(1 ? (1 ? 3 : 4) : 5)", V.str "(-1 ? 1 : 2)", V.str "(yes ? 1 : 2)"])) E3 = some (.lst (txD.map V.str)) := upd_same
    generalize upd H13 E3 (.lst [V.str "(1 ? (1 ? 3 : 4) : 5)", V.str "(-1 ? 1 : 2)", V.str "(yes ? 1 : 2)"]) = H14 at s14 eE3 ⊢
    have eD14 := s14 _ _ eD13
    refine ⟨D, E3, (txA fx ++ txB fx ++ txC fx).map V.str, txD.map V.str, rfl, rfl, eD14, eE3, by show 21 ≤ sizeLine; decide, ?_⟩
    obtain ⟨t15, b15, hT15, en15⟩ := chg (o := .lst ((txA fx ++ txB fx ++ txC fx).map V.str ++ txD.map V.str)) (t13'.trans s14.sbt) (b13.same s14) (Cor.Tabs.same hT13 s14) (s14 _ _ en13) eD14
    have eD15 : (upd H14 D (.lst ((txA fx ++ txB fx ++ txC fx).map V.str ++ txD.map V.str))) D = some (.lst ((txA fx ++ txB fx ++ txC fx ++ txD).map V.str)) := by rw [upd_same, List.map_append (l₁ := txA fx ++ txB fx ++ txC fx)]
    generalize upd H14 D (.lst ((txA fx ++ txB fx ++ txC fx).map V.str ++ txD.map V.str)) = H15 at t15 b15 hT15 en15 eD15 ⊢
    have base := base8_ok hfg hf1 hf2
    have lbase : (txA fx ++ txB fx ++ txC fx ++ txD).length = 21 := rfl
    generalize txA fx ++ txB fx ++ txC fx ++ txD = xs0 at eD15 base lbase
    -- six turns
    refine ⟨6, rfl, by decide, by decide, for_range (lo := 0) (fun j σ H' => ∃ (w10 w11 w12 w13 : Option V) (xs : List Str), σ = [some (.ref a), y1, some (.int (0 + i)), some (.ref p), some (.ref an), some (.str fx), some (.int (7 + n5 : Nat)), some fv, some fo, some (.ref D), w10, w11, w12, w13] ∧ SbT p H1 H' ∧ Box H' p ∧ Tabs T0 H' ∧ H' an = some (.lst (S.map V.int)) ∧ H' D = some (.lst (xs.map V.str)) ∧ (∀ x ∈ xs, Tx8 x) ∧ xs.length = 21 + 8 * j) ⟨_, _, _, _, xs0, rfl, t15, b15, hT15, en15, eD15, base, lbase⟩ ?_ ?_⟩
    · rintro j σ H16 hj ⟨w10, w11, w12, w13, xs, rfl, t16', b16, hT16, en16, eD16, hxs, lxs⟩
      refine ⟨_, rfl, _, rfl, _, rfl, _, rfl, p, 3, rfl, b16, by decide, by decide, fun r6 H17 t17' b17 r60 r61 => ⟨rfl, ?_⟩⟩
      have hT17 := tabs_but hT16 b16 t17'
      refine ⟨_, rfl, p, 6, rfl, b17, by decide, by decide, fun r7 H18 t18' b18 r70 r71 => ⟨_, _, rfl, rfl, ?_⟩⟩
      have hT18 := tabs_but hT17 b17 t18'
      have en18 := t18' _ _ nep (t17' _ _ nep en16)
      have eD18 := t18' _ _ nDp (t17' _ _ nDp eD16)
      refine ⟨p, an, decide (V.int r6 = V.int 0), 1 + r7, S, rfl, b18, en18, nep, by omega, by omega, by omega, fun rv rt H19 t19' b19 hrv hrw hrd => ?_⟩
      have hT19 := tabs_but hT18 b18 t19'
      have en19 := t19' _ _ nep en18
      have eD19 := t19' _ _ nDp eD18
      refine ⟨an, rv, S, rt, _, rfl, en19, by omega, asc, nb, hrv, hrw, hT19, fun gv H20 gt x20 hT20 hgv hgc hge => ?_⟩
      have b20 := b19.ext x20
      have en20 : H20 an = some (.lst (S.map V.int)) := x20 _ _ en19 (fun _ z => by cases z)
      have eD20 : H20 D = some (.lst (xs.map V.str)) := x20 _ _ eD19 (fun _ z => by cases z)
      have t20 : SbT p H1 H20 := t16'.trans (t17'.sbt.trans (t18'.sbt.trans (t19'.sbt.trans x20.sbt)))
      have rdg : Rd gt := cn_rd rng hgc
      have dpg : gt.dep ≤ 6 := Nat.le_trans hgc.dep_le l6
      have szg : gt.sz ≤ 200 := by
        have h1 := sz_dep gt
        have h2 : 2 ^ (gt.dep + 1) ≤ 2 ^ 7 := Nat.pow_le_pow_right (by decide) (by omega)
        have h3 : 2 ^ 7 = 128 := by decide
        omega
      have sq0 : Sq8 6 63 63 252 6400 (txt gt) := good8 rdg dpg (txt_len9 rdg) (sz_nums gt)
      have lgt := sq0.ll
      refine ⟨gv, gt, rfl, hgv, by omega, by omega, rdg, ?_⟩
      generalize txt gt = gx at sq0 lgt ⊢
      have q1 : Cq 2 2 9 40 (" " : Str) := cz (by decide +kernel)
      have q2 : Cq 2 2 9 40 ("(1 ? 1 : " : Str) := cz (by decide +kernel)
      have q3 : Cq 2 2 9 40 (")" : Str) := cz (by decide +kernel)
      have q4 : Cq 2 2 9 40 ("\n" : Str) := cz (by decide +kernel)
      have tg : ∀ x ∈ ([gx, " " ++ gx, gx ++ " ", "(1 ? 1 : " ++ gx ++ ")", gx ++ "\n"] : List Str), Tx8 x := fun x hx => by
        simp only [List.mem_cons, List.not_mem_nil, or_false] at hx
        rcases hx with e | e | e | e | e
        · rw [e]; exact sq0.toCq.tx8 (by decide) (by decide) (by decide)
        · rw [e]; exact (q1.app sq0.toCq).tx8 (by decide) (by decide) (by decide)
        · rw [e]; exact (sq0.toCq.app q1).tx8 (by decide) (by decide) (by decide)
        · rw [e]; exact ((q2.app sq0.toCq).app q3).tx8 (by decide) (by decide) (by decide)
        · rw [e]; exact (sq0.toCq.app q4).tx8 (by decide) (by decide) (by decide)
      have g1 := q1.ll
      have g2 := q2.ll
      have g3 := q3.ll
      have g4 := q4.ll
      have sz16 : sizeLine = 16777216 := sizeLine_eq
      refine ⟨_, rfl, _, rfl, .inl ⟨rfl, _, SqL.of eD20⟩, _, rfl, _, rfl, _, _, rfl, rfl, by omega, _, rfl, _, _, rfl, rfl, by omega, _, rfl, _, _, rfl, rfl, by omega, _, _, rfl, rfl, by rw [Str.length_append]; omega, _, rfl, _, _, rfl, rfl, by omega, (by show 5 ≤ sizeLine; decide), fun E4 nE4 => ?_⟩
      have s21 := same_upd (o := .lst [V.str gx, V.str (" " ++ gx), V.str (gx ++ " "), V.str ("(1 ? 1 : " ++ gx ++ ")"), V.str (gx ++ "\n")]) nE4
      have eE4 : (upd H20 E4 (.lst [V.str gx, V.str (" " ++ gx), V.str (gx ++ " "), V.str ("(1 ? 1 : " ++ gx ++ ")"), V.str (gx ++ "\n")])) E4 = some (.lst (([gx, " " ++ gx, gx ++ " ", "(1 ? 1 : " ++ gx ++ ")", gx ++ "\n"] : List Str).map V.str)) := upd_same
      generalize upd H20 E4 (.lst [V.str gx, V.str (" " ++ gx), V.str (gx ++ " "), V.str ("(1 ? 1 : " ++ gx ++ ")"), V.str (gx ++ "\n")]) = H21 at s21 eE4 ⊢
      have eD21 := s21 _ _ eD20
      refine ⟨D, E4, xs.map V.str, ([gx, " " ++ gx, gx ++ " ", "(1 ? 1 : " ++ gx ++ ")", gx ++ "\n"] : List Str).map V.str, rfl, rfl, eD21, eE4, by rw [List.length_map, lxs, sz16]; show 21 + 8 * j + 5 ≤ _; omega, ?_⟩
      obtain ⟨t22, b22, hT22, en22⟩ := chg (o := .lst (xs.map V.str ++ ([gx, " " ++ gx, gx ++ " ", "(1 ? 1 : " ++ gx ++ ")", gx ++ "\n"] : List Str).map V.str)) (t20.trans s21.sbt) (b20.same s21) (Cor.Tabs.same hT20 s21) (s21 _ _ en20) eD21
      have eD22 : (upd H21 D (.lst (xs.map V.str ++ ([gx, " " ++ gx, gx ++ " ", "(1 ? 1 : " ++ gx ++ ")", gx ++ "\n"] : List Str).map V.str))) D = some (.lst ((xs ++ [gx, " " ++ gx, gx ++ " ", "(1 ? 1 : " ++ gx ++ ")", gx ++ "\n"]).map V.str)) := by rw [upd_same, List.map_append]
      generalize upd H21 D (.lst (xs.map V.str ++ ([gx, " " ++ gx, gx ++ " ", "(1 ? 1 : " ++ gx ++ ")", gx ++ "\n"] : List Str).map V.str)) = H22 at t22 b22 hT22 en22 eD22 ⊢
      have hxs2 : ∀ x ∈ xs ++ [gx, " " ++ gx, gx ++ " ", "(1 ? 1 : " ++ gx ++ ")", gx ++ "\n"], Tx8 x := fun x hx => (List.mem_append.mp hx).elim (hxs x) (tg x)
      have lxs2 : (xs ++ [gx, " " ++ gx, gx ++ " ", "(1 ? 1 : " ++ gx ++ ")", gx ++ "\n"]).length = 26 + 8 * j := by rw [List.length_append, lxs]; show 21 + 8 * j + 5 = _; omega
      generalize xs ++ [gx, " " ++ gx, gx ++ " ", "(1 ? 1 : " ++ gx ++ ")", gx ++ "\n"] = xs2 at eD22 hxs2 lxs2
      refine ⟨3, rfl, by decide, by decide, for_range (lo := 0) (fun m σ H' => ∃ (w13 : Option V) (tx : Str) (ys : List Str), σ = [some (.ref a), y1, some (.int (0 + i)), some (.ref p), some (.ref an), some (.str fx), some (.int (7 + n5 : Nat)), some fv, some fo, some (.ref D), some (.int (0 + j)), some (.str gx), some (.str tx), w13] ∧ SbT p H1 H' ∧ Box H' p ∧ Tabs T0 H' ∧ H' an = some (.lst (S.map V.int)) ∧ H' D = some (.lst (ys.map V.str)) ∧ (∀ x ∈ ys, Tx8 x) ∧ ys.length = 26 + 8 * j + m ∧ St8 m tx) ⟨_, gx, xs2, rfl, t22, b22, hT22, en22, eD22, hxs2, lxs2, sq0⟩ ?_ ?_⟩
      · rintro m σ H23 hm3 ⟨w13', tx, ys, rfl, t23, b23, hT23, en23, eD23, hys, lys, hst⟩
        obtain ⟨k, c, o, b, L, hsq, hL, nxt⟩ := hst.next hm3
        refine ⟨_, rfl, _, rfl, p, tx, k, c, o, b, L, rfl, b23, hsq, hL, fun y H24 t24' b24 hy => ?_⟩
        have hy' := nxt y hy
        have hT24 := tabs_but hT23 b23 t24'
        have en24 := t24' _ _ nep en23
        have eD24 := t24' _ _ nDp eD23
        refine ⟨_, rfl, .inl ⟨rfl, _, SqL.of eD24⟩, _, rfl, D, ys.map V.str, _, rfl, rfl, eD24, by rw [List.length_map, lys, sz16]; omega, ?_⟩
        obtain ⟨t25, b25, hT25, en25⟩ := chg (o := .lst (ys.map V.str ++ [V.str y])) (t23.trans t24'.sbt) b24 hT24 en24 eD24
        refine ⟨_, y, ys ++ [y], rfl, t25, b25, hT25, en25, by rw [upd_same, List.map_append]; rfl, fun x hx => ?_, by rw [List.length_append, lys]; rfl, hy'⟩
        rcases List.mem_append.mp hx with z | z
        · exact hys x z
        · rw [List.mem_singleton.mp z]
          exact hy'.tx
      · rintro σ H23 ⟨w13', tx, ys, rfl, t23, b23, hT23, en23, eD23, hys, lys, _⟩
        exact ⟨_, _, _, _, ys, rfl, t23, b23, hT23, en23, eD23, hys, by omega⟩
    · rintro σ H16 ⟨w10, w11, w12, w13, xs, rfl, t16', b16, hT16, en16, eD16, hxs, lxs⟩
      refine ⟨_, rfl, _, rfl, p, D, xs, rfl, b16, eD16, nDp, by omega, fun Lm ys H17 t17' b17 nLm eLm pm => ?_⟩
      have hT17 := tabs_but hT16 b16 t17'
      have t17f : SbT p H1 H17 := t16'.trans t17'.sbt
      refine ⟨Lm, rfl, ⟨_, SqL.of eLm⟩, for_list (xs := ys.map V.str) (fun _ σ H' => (∃ w10 w11 w12 w13 : Option V, σ = [some (.ref a), y1, some (.int (0 + i)), some (.ref p), some (.ref an), some (.str fx), some (.int (7 + n5 : Nat)), some fv, some fo, some (.ref D), w10, w11, w12, w13]) ∧ Same H17 H') ⟨⟨_, _, _, _, rfl⟩, fun _ _ z => z⟩ ?_ ?_ ?_⟩
      · rintro m σ H' _ ⟨_, s⟩
        exact SqL.of (s _ _ eLm)
      · rintro m x σ H18 hx ⟨⟨v10, v11, v12, v13, rfl⟩, s18⟩
        rw [List.getElem?_map] at hx
        cases hy : ys[m]? with
        | none => rw [hy] at hx; cases hx
        | some y =>
        rw [hy] at hx
        cases hx
        have hty := hxs y (pm.mem_iff.mp (List.mem_of_getElem? hy))
        refine ⟨_, rfl, y, rfl, hty, fun H19 s19 => ⟨_, rfl, ?_⟩⟩
        exact ⟨⟨_, _, _, _, rfl⟩, fun b o z => s19 b o (s18 b o z)⟩
      · rintro σ H18 ⟨⟨v10, v11, v12, v13, rfl⟩, s18⟩
        exact ⟨_, _, _, _, _, _, _, _, _, _, _, _, _, rfl, SbT.sq hS0 np t1 (t17f.trans s18.sbt), Cor.Tabs.same hT17 s18⟩
end
end Law
set_option Elab.async false
set_option linter.all false
set_option maxRecDepth 100000
set_option maxHeartbeats 2000000
namespace Law
open PySem PySem.Spec PyProof.Rows L2 Cor LamX NdefX
theorem md_of {P : Program} {w : World} {K : PySem.W.Frag} {mg : Str → Option Value} {base : Heap} {k : Nat} {g : Addr} {fd : FuncData} {ps : List Str} {sp : Sp} (F : FnOk P w K mg base CX0 k g fd ps sp) (b : Binds K fd ps []) : FnR P w K mg base CX0 k g sp :=
  (FnOk.raw F b .nil).imp fun vs H Q E h => by rw [List.append_nil]; exact h
theorem mdx_of {P : Program} {w : World} {K : PySem.W.Frag} {mg : Str → Option Value} {base : Heap} {k : Nat} {g : Addr} {fd : FuncData} {ps : List Str} {sp : Sp} (F : FnOk P w K mg base (L2.CX P w) k g fd ps sp) (b : Binds K fd ps []) : FnR P w K mg base (L2.CX P w) k g sp :=
  (FnOk.raw F b .nil).imp fun vs H Q E h => by rw [List.append_nil]; exact h
def codeO (o : Obj) : Option Value := match o.data with
  | .func fd => some fd.code
  | _ => none
theorem code_of {K : PySem.W.Frag} {f : Addr} {o : Obj} {v : Value} (h : K.lookup f = some o) (e : codeO o = some v) : fnCode K f = some v := by
  obtain ⟨oc, od, dt, sl⟩ := o
  unfold fnCode
  rw [h]
  cases dt <;> first | exact e | cases e
def tabO (o : Obj) : Option Value := match o.data with
  | .fields vs => vs[11]?
  | _ => none
theorem all_mk {l : PySem.W.OpenLaw} {w : World} {K : PySem.W.Frag} {h : Heap} {mg : Str → Option Value} {fa : Addr} (X : K.In h) (G : h.Ns mainGlobals mg) (hfa : mg "law" = some (.ref fa))
    (zlen : PySem.W.nsIn K mainGlobals "len" = some none)
    (zabs : PySem.W.nsIn K mainGlobals "abs" = some none)
    (zint : PySem.W.nsIn K mainGlobals "int" = some none)
    (zrange : PySem.W.nsIn K mainGlobals "range" = some none)
    (zmax : PySem.W.nsIn K mainGlobals "max" = some none)
    (zmin : PySem.W.nsIn K mainGlobals "min" = some none)
    (zisinstance : PySem.W.nsIn K mainGlobals "isinstance" = some none)
    (ztuple : PySem.W.nsIn K mainGlobals "tuple" = some none)
    (zbool : PySem.W.nsIn K mainGlobals "bool" = some none)
    (zset : PySem.W.nsIn K mainGlobals "set" = some none)
    (zsorted : PySem.W.nsIn K mainGlobals "sorted" = some none)
    (zstr : PySem.W.nsIn K mainGlobals "str" = some none)
    (zdict : PySem.W.nsIn K mainGlobals "dict" = some none)
    (zrepr : PySem.W.nsIn K mainGlobals "repr" = some none)
    (zlist : PySem.W.nsIn K mainGlobals "list" = some none)
    {fIsInt : Addr}
    (aIsInt : PySem.W.nsIn K mainGlobals "is_integer" = some (some (.ref fIsInt)))
    (FIsInt : ∃ fd, Fun K "is_integer" "is_integer" sIsInt fIsInt fd)
    {fLeaf : Addr}
    (aLeaf : PySem.W.nsIn K mainGlobals "is_leaf" = some (some (.ref fLeaf)))
    (FLeaf : ∃ fd, Fun K "is_leaf" "is_leaf" sLeaf fLeaf fd)
    {fNode : Addr}
    (aNode : PySem.W.nsIn K mainGlobals "node" = some (some (.ref fNode)))
    (FNode : ∃ fd, Fun K "node" "node" sNode fNode fd)
    {fCase : Addr}
    (aCase : PySem.W.nsIn K mainGlobals "case_of" = some (some (.ref fCase)))
    (FCase : ∃ fd, Fun K "case_of" "case_of" sCase fCase fd)
    {fTops : Addr}
    (aTops : PySem.W.nsIn K mainGlobals "tops" = some (some (.ref fTops)))
    (FTops : ∃ fd, Fun K "tops" "tops" sTops fTops fd)
    {fChoice : Addr}
    (aChoice : PySem.W.nsIn K mainGlobals "choice" = some (some (.ref fChoice)))
    (FChoice : ∃ fd, Fun K "choice" "choice" sChoice fChoice fd)
    {fJoined : Addr}
    (aJoined : PySem.W.nsIn K mainGlobals "joined" = some (some (.ref fJoined)))
    (FJoined : ∃ fd, Fun K "joined" "joined" sJoined fJoined fd)
    {fCombined : Addr}
    (aCombined : PySem.W.nsIn K mainGlobals "combined" = some (some (.ref fCombined)))
    (FCombined : ∃ fd, Fun K "combined" "combined" sCombined fCombined fd)
    {fTurned : Addr}
    (aTurned : PySem.W.nsIn K mainGlobals "turned" = some (some (.ref fTurned)))
    (FTurned : ∃ fd, Fun K "turned" "turned" sTurned fTurned fd)
    {fNumbers : Addr}
    (aNumbers : PySem.W.nsIn K mainGlobals "numbers_in" = some (some (.ref fNumbers)))
    (FNumbers : ∃ fd, Fun K "numbers_in" "numbers_in" sNumbers fNumbers fd)
    {fReduced : Addr}
    (aReduced : PySem.W.nsIn K mainGlobals "reduced" = some (some (.ref fReduced)))
    (FReduced : ∃ fd, Fun K "reduced" "reduced" sReduced fReduced fd)
    {fText : Addr}
    (aText : PySem.W.nsIn K mainGlobals "tree_text" = some (some (.ref fText)))
    (FText : ∃ fd, Fun K "tree_text" "tree_text" sText fText fd)
    {fTruthT : Addr}
    (aTruthT : PySem.W.nsIn K mainGlobals "is_truth_tree" = some (some (.ref fTruthT)))
    (FTruthT : ∃ fd, Fun K "is_truth_tree" "is_truth_tree" sTruthT fTruthT fd)
    {fTreeOf : Addr}
    (aTreeOf : PySem.W.nsIn K mainGlobals "tree_of" = some (some (.ref fTreeOf)))
    (FTreeOf : ∃ fd, Fun K "tree_of" "tree_of" sTreeOf fTreeOf fd)
    {fIsFig : Addr}
    (aIsFig : PySem.W.nsIn K mainGlobals "is_figure" = some (some (.ref fIsFig)))
    (FIsFig : ∃ fd, Fun K "is_figure" "is_figure" sIsFig fIsFig fd)
    {fFigOf : Addr}
    (aFigOf : PySem.W.nsIn K mainGlobals "figure_of" = some (some (.ref fFigOf)))
    (FFigOf : ∃ fd, Fun K "figure_of" "figure_of" sFigOf fFigOf fd)
    {fNumOf : Addr}
    (aNumOf : PySem.W.nsIn K mainGlobals "number_of" = some (some (.ref fNumOf)))
    (FNumOf : ∃ fd, Fun K "number_of" "number_of" sNumOf fNumOf fd)
    {fLeafOf : Addr}
    (aLeafOf : PySem.W.nsIn K mainGlobals "leaf_of" = some (some (.ref fLeafOf)))
    (FLeafOf : ∃ fd, Fun K "leaf_of" "leaf_of" sLeafOf fLeafOf fd)
    {fParsed : Addr}
    (aParsed : PySem.W.nsIn K mainGlobals "parsed" = some (some (.ref fParsed)))
    (FParsed : ∃ fd, Fun K "parsed" "parsed" sParsed fParsed fd)
    {fSound : Addr}
    (aSound : PySem.W.nsIn K mainGlobals "is_sound" = some (some (.ref fSound)))
    (FSound : ∃ fd, Fun K "is_sound" "is_sound" sSound fSound fd)
    {fBox : Addr}
    (aBox : PySem.W.nsIn K mainGlobals "_law_box" = some (some (.ref fBox)))
    (FBox : ∃ fd, Fun K "_law_box" "_law_box" sBox fBox fd)
    {fTake : Addr}
    (aTake : PySem.W.nsIn K mainGlobals "_law_take" = some (some (.ref fTake)))
    (FTake : ∃ fd, Fun K "_law_take" "_law_take" sTake fTake fd)
    {fNums : Addr}
    (aNums : PySem.W.nsIn K mainGlobals "_law_numbers" = some (some (.ref fNums)))
    (FNums : ∃ fd, Fun K "_law_numbers" "_law_numbers" sNums fNums fd)
    {fLeafL : Addr}
    (aLeafL : PySem.W.nsIn K mainGlobals "_law_leaf" = some (some (.ref fLeafL)))
    (FLeafL : ∃ fd, Fun K "_law_leaf" "_law_leaf" sLeafL fLeafL fd)
    {fRaw : Addr}
    (aRaw : PySem.W.nsIn K mainGlobals "_law_raw" = some (some (.ref fRaw)))
    (FRaw : ∃ fd, Fun K "_law_raw" "_law_raw" sRaw fRaw fd)
    {fValue : Addr}
    (aValue : PySem.W.nsIn K mainGlobals "_law_value" = some (some (.ref fValue)))
    (FValue : ∃ fd, Fun K "_law_value" "_law_value" sValue fValue fd)
    {fTree : Addr}
    (aTree : PySem.W.nsIn K mainGlobals "_law_tree" = some (some (.ref fTree)))
    (FTree : ∃ fd, Fun K "_law_tree" "_law_tree" sTree fTree fd)
    {fForm : Addr}
    (aForm : PySem.W.nsIn K mainGlobals "_law_form" = some (some (.ref fForm)))
    (FForm : ∃ fd, Fun K "_law_form" "_law_form" sForm fForm fd)
    {fFound : Addr}
    (aFound : PySem.W.nsIn K mainGlobals "_law_found" = some (some (.ref fFound)))
    (FFound : ∃ fd, Fun K "_law_found" "_law_found" sFound fFound fd)
    {fTextL : Addr}
    (aTextL : PySem.W.nsIn K mainGlobals "_law_text" = some (some (.ref fTextL)))
    (FTextL : ∃ fd, Fun K "_law_text" "_law_text" sTextL fTextL fd)
    {fIs : Addr}
    (aIs : PySem.W.nsIn K mainGlobals "_law_is" = some (some (.ref fIs)))
    (FIs : ∃ fd, Fun K "_law_is" "_law_is" sIs fIs fd)
    {fMixed : Addr}
    (aMixed : PySem.W.nsIn K mainGlobals "_law_mixed" = some (some (.ref fMixed)))
    (FMixed : ∃ fd, Fun K "_law_mixed" "_law_mixed" sMixed fMixed fd)
    {fTold8 : Addr}
    (aTold8 : PySem.W.nsIn K mainGlobals "_law_told" = some (some (.ref fTold8)))
    (FTold8 : ∃ fd, Fun K "_law_told" "_law_told" sTold8 fTold8 fd)
    {fFig8 : Addr}
    (aFig8 : PySem.W.nsIn K mainGlobals "_law_figure" = some (some (.ref fFig8)))
    (FFig8 : ∃ fd, Fun K "_law_figure" "_law_figure" sFig8 fFig8 fd)
    {fLeaf8 : Addr}
    (aLeaf8 : PySem.W.nsIn K mainGlobals "_law_leaf_of" = some (some (.ref fLeaf8)))
    (FLeaf8 : ∃ fd, Fun K "_law_leaf_of" "_law_leaf_of" sLeaf8 fLeaf8 fd)
    {fTok8 : Addr}
    (aTok8 : PySem.W.nsIn K mainGlobals "_law_tokens" = some (some (.ref fTok8)))
    (FTok8 : ∃ fd, Fun K "_law_tokens" "_law_tokens" sTok8 fTok8 fd)
    {fRead8 : Addr}
    (aRead8 : PySem.W.nsIn K mainGlobals "_law_read" = some (some (.ref fRead8)))
    (FRead8 : ∃ fd, Fun K "_law_read" "_law_read" sRead8 fRead8 fd)
    {fKinds8 : Addr}
    (aKinds8 : PySem.W.nsIn K mainGlobals "_law_kinds" = some (some (.ref fKinds8)))
    (FKinds8 : ∃ fd, Fun K "_law_kinds" "_law_kinds" sKinds8 fKinds8 fd)
    {fDeep8 : Addr}
    (aDeep8 : PySem.W.nsIn K mainGlobals "_law_deep" = some (some (.ref fDeep8)))
    (FDeep8 : ∃ fd, Fun K "_law_deep" "_law_deep" sDeep8 fDeep8 fd)
    {fRight8 : Addr}
    (aRight8 : PySem.W.nsIn K mainGlobals "_law_right" = some (some (.ref fRight8)))
    (FRight8 : ∃ fd, Fun K "_law_right" "_law_right" sRight8 fRight8 fd)
    {fLCases : Addr}
    (aLCases : PySem.W.nsIn K mainGlobals "_law_cases" = some (some (.ref fLCases)))
    (FLCases : ∃ fd, Fun K "_law_cases" "_law_cases" sLCases fLCases fd)
    {fLBuilt : Addr}
    (aLBuilt : PySem.W.nsIn K mainGlobals "_law_built" = some (some (.ref fLBuilt)))
    (FLBuilt : ∃ fd, Fun K "_law_built" "_law_built" sLBuilt fLBuilt fd)
    {fMore8 : Addr}
    (aMore8 : PySem.W.nsIn K mainGlobals "_law_more" = some (some (.ref fMore8)))
    (FMore8 : ∃ fd, Fun K "_law_more" "_law_more" sMore8 fMore8 fd)
    {fAsB : Addr}
    (aAsB : PySem.W.nsIn K mainGlobals "_law_as_built" = some (some (.ref fAsB)))
    (FAsB : ∃ fd, Fun K "_law_as_built" "_law_as_built" sAsB fAsB fd)
    {fChain8 : Addr}
    (aChain8 : PySem.W.nsIn K mainGlobals "_law_chain" = some (some (.ref fChain8)))
    (FChain8 : ∃ fd, Fun K "_law_chain" "_law_chain" sChain8 fChain8 fd)
    {fSpoil8 : Addr}
    (aSpoil8 : PySem.W.nsIn K mainGlobals "_law_spoilt" = some (some (.ref fSpoil8)))
    (FSpoil8 : ∃ fd, Fun K "_law_spoilt" "_law_spoilt" sSpoil8 fSpoil8 fd)
    {fRow8 : Addr}
    (aRow8 : PySem.W.nsIn K mainGlobals "_law_row" = some (some (.ref fRow8)))
    (FRow8 : ∃ fd, Fun K "_law_row" "_law_row" sRow8 fRow8 fd)
    {fLaw : Addr}
    (aLaw : PySem.W.nsIn K mainGlobals "law" = some (some (.ref fLaw)))
    (FLaw : ∃ fd, Fun K "law" "law" sLaw fLaw fd)
    {C : Addr}
    {mc : Value}
    (aC : PySem.W.nsIn K mainGlobals "Worth" = some (some (.ref C)))
    (tC : PySem.W.typeIn K (.ref C) = some mc)
    (gC : PySem.W.specialIn K (.ref C) "__getattribute__" = some (some (.builtin "type.__getattribute__")))
    (rC : PySem.W.readsIn K C mc = true)
    (pgC : PySem.W.plainGet K C Str.empty = true)
    (hdC : PySem.W.hasDictIn K C = true)
    (poC : PySem.W.plainOver K C = true)
    (saC : PySem.W.findIn K (.ref C) "__setattr__" = some (some (.builtin "object.__setattr__")))
    (ntC : PySem.W.findIn K (.ref C) "tree" = some none)
    (caC : PySem.W.findIn K (.ref C) "__class__" = some (some (.builtin "object.__class__")))
    (cnC : PySem.W.specialIn K (.builtin "object.__class__") "__get__" = some (some (.builtin "getset_descriptor.__get__")))
    (ctC : PySem.W.takesIn K (.builtin "object.__class__") = some true)
    (cmC : PySem.W.mroIn K C (.type "object") = some true)
    (kwC : PySem.W.kitOne K (.ref C) (.ref C) = some true)
    (kiC : PySem.W.kitOne K (.type "int") (.ref C) = some false)
    (kbC : PySem.W.kitOne K (.type "bool") (.ref C) = some false)
    (mkC : PySem.W.makesIn K C = true)
    (kpC : PySem.W.keepIn K (.ref C) = true)
    (sfC : PySem.W.selfFirst K C = true)
    (neC : PySem.W.findIn K (.ref C) "__ne__" = some (some (.builtin "object.__ne__")))
    (obC : PySem.W.subIn K (.ref C) (.type "object") = some true)
    (otAddint : OpT K C .Add "int")
    {SE : Addr}
    {mcS : Value}
    {CN : Addr}
    {iN : Addr}
    {CH : Addr}
    (aS : PySem.W.nsIn K mainGlobals "StoreError" = some (some (.ref SE)))
    (tS : PySem.W.typeIn K (.ref SE) = some mcS)
    (gS : PySem.W.specialIn K (.ref SE) "__getattribute__" = some (some (.builtin "type.__getattribute__")))
    (rS : PySem.W.readsIn K SE mcS = true)
    (vS : PySem.W.findCls K (.ref SE) mcS "__init__" = some (.val (.builtin "ValueError.__init__")))
    (mNW : PySem.W.nsIn K mainGlobals "NoWorth" = some (some (.ref CN)))
    (xNW : Exn K CN "ValueError.__new__" "ValueError.__init__")
    (fNW : PySem.W.findIn K (.ref CN) "value" = some none)
    (jNW : PySem.W.findIn K (.ref CN) "__init__" = some (some (.ref iN)))
    (tNW : PySem.W.typeIn K (.ref iN) = some (.type "function"))
    (FNW : ∃ fd, Fun K "__init__" "NoWorth.__init__" sNoWorth iN fd)
    (mHO : PySem.W.nsIn K mainGlobals "NoDeal" = some (some (.ref CH)))
    (zVE : PySem.W.nsIn K mainGlobals "ValueError" = some none)
    (exS : PySem.W.exmOne K (.ref CN) (.ref SE) = some true)
    (kNN : PySem.W.kitOne K (.ref CN) (.ref CN) = some true)
    (kNV : PySem.W.kitOne K (.ref CN) (.type "ValueError") = some true)
    (kNH : PySem.W.kitOne K (.ref CN) (.ref CH) = some false)
    (kwNoneType : PySem.W.kitOne K (.type "NoneType") (.ref C) = some false)
    (kwstr : PySem.W.kitOne K (.type "str") (.ref C) = some false)
    (kwtuple : PySem.W.kitOne K (.type "tuple") (.ref C) = some false)
    (kwlist : PySem.W.kitOne K (.type "list") (.ref C) = some false)
    (iTreeOf : PySem.W.isFn K (.ref fTreeOf) = true)
    (zall : PySem.W.nsIn K mainGlobals "all" = some none)
    (zenumerate : PySem.W.nsIn K mainGlobals "enumerate" = some none)
    (gDigits : ∃ t, PySem.W.nsIn K mainGlobals "DIGITS" = some (some (.str digS t)))
    (gLfig : ∃ t, PySem.W.nsIn K mainGlobals "LONGEST_FIGURE" = some (some (.int 20 t)))
    (gDeepest : ∃ t, PySem.W.nsIn K mainGlobals "DEEPEST" = some (some (.int 12 t)))
    {gInit : Addr}
    (bInit : PySem.W.findIn K (.ref C) "__init__" = some (some (.ref gInit)))
    (iInit : PySem.W.isFn K (.ref gInit) = true)
    (MInit : ∃ fd, Fun K "__init__" "Worth.__init__" sWInit gInit fd)
    {gEq : Addr}
    (bEq : PySem.W.findIn K (.ref C) "__eq__" = some (some (.ref gEq)))
    (iEq : PySem.W.isFn K (.ref gEq) = true)
    (MEq : ∃ fd, Fun K "__eq__" "Worth.__eq__" sWEq gEq fd)
    {gStr : Addr}
    (bStr : PySem.W.findIn K (.ref C) "__str__" = some (some (.ref gStr)))
    (iStr : PySem.W.isFn K (.ref gStr) = true)
    (MStr : ∃ fd, Fun K "__str__" "Worth.__str__" sWStr gStr fd)
    {gRepr : Addr}
    (bRepr : PySem.W.findIn K (.ref C) "__repr__" = some (some (.ref gRepr)))
    (iRepr : PySem.W.isFn K (.ref gRepr) = true)
    (MRepr : ∃ fd, Fun K "__repr__" "Worth.__repr__" sWRepr gRepr fd)
    {gCall : Addr}
    (bCall : PySem.W.findIn K (.ref C) "__call__" = some (some (.ref gCall)))
    (iCall : PySem.W.isFn K (.ref gCall) = true)
    (MCall : ∃ fd, Fun K "__call__" "Worth.__call__" sWCall gCall fd)
    {gCases : Addr}
    (bCases : PySem.W.findIn K (.ref C) "cases" = some (some (.ref gCases)))
    (iCases : PySem.W.isFn K (.ref gCases) = true)
    (MCases : ∃ fd, Fun K "cases" "Worth.cases" sWCases gCases fd)
    {gAdd : Addr}
    (bAdd : PySem.W.findIn K (.ref C) "__add__" = some (some (.ref gAdd)))
    (iAdd : PySem.W.isFn K (.ref gAdd) = true)
    (MAdd : ∃ fd, Fun K "__add__" "Worth.__add__" sWAdd gAdd fd)
    (fiCall : PySem.W.fnIn K gCall = true)
    {gOf : Addr}
    {pOf : Addr}
    (bOf : PySem.W.findCls K (.ref C) mc "of" = some (.get (.builtin "staticmethod.__get__") (.ref pOf) .none (.ref C)))
    (cOf : ∃ rest, PySem.W.recIn K pOf "staticmethod" = some (.ref gOf :: rest))
    (iOf : PySem.W.isFn K (.ref gOf) = true)
    (MOf : ∃ fd, Fun K "of" "Worth.of" sWOf gOf fd)
    {gEither : Addr}
    {pEither : Addr}
    (bEither : PySem.W.findCls K (.ref C) mc "either" = some (.get (.builtin "staticmethod.__get__") (.ref pEither) .none (.ref C)))
    (cEither : ∃ rest, PySem.W.recIn K pEither "staticmethod" = some (.ref gEither :: rest))
    (iEither : PySem.W.isFn K (.ref gEither) = true)
    (MEither : ∃ fd, Fun K "either" "Worth.either" sWEither gEither fd)
    {gRead : Addr}
    {pRead : Addr}
    (bRead : PySem.W.findCls K (.ref C) mc "read" = some (.get (.builtin "staticmethod.__get__") (.ref pRead) .none (.ref C)))
    (cRead : ∃ rest, PySem.W.recIn K pRead "staticmethod" = some (.ref gRead :: rest))
    (iRead : PySem.W.isFn K (.ref gRead) = true)
    (MRead : ∃ fd, Fun K "read" "Worth.read" sWRead gRead fd)
    {gWords : Addr}
    {pWords : Addr}
    (bWords : PySem.W.findIn K (.ref C) "words" = some (some (.ref pWords)))
    (eWords : PySem.W.specialIn K (.ref pWords) "__get__" = some (some (.builtin "property.__get__")))
    (kWords : PySem.W.takesIn K (.ref pWords) = some true)
    (cWords : ∃ rest, PySem.W.recIn K pWords "property" = some (.ref gWords :: rest))
    (MWords : ∃ fd, Fun K "words" "Worth.words" sWWords gWords fd)
    {gPlain : Addr}
    {pPlain : Addr}
    (bPlain : PySem.W.findIn K (.ref C) "plain" = some (some (.ref pPlain)))
    (ePlain : PySem.W.specialIn K (.ref pPlain) "__get__" = some (some (.builtin "property.__get__")))
    (kPlain : PySem.W.takesIn K (.ref pPlain) = some true)
    (cPlain : ∃ rest, PySem.W.recIn K pPlain "property" = some (.ref gPlain :: rest))
    (MPlain : ∃ fd, Fun K "plain" "Worth.plain" sWPlain gPlain fd)
    {gIsT : Addr}
    {pIsT : Addr}
    (bIsT : PySem.W.findIn K (.ref C) "is_truth" = some (some (.ref pIsT)))
    (eIsT : PySem.W.specialIn K (.ref pIsT) "__get__" = some (some (.builtin "property.__get__")))
    (kIsT : PySem.W.takesIn K (.ref pIsT) = some true)
    (cIsT : ∃ rest, PySem.W.recIn K pIsT "property" = some (.ref gIsT :: rest))
    (MIsT : ∃ fd, Fun K "is_truth" "Worth.is_truth" sWIsT gIsT fd)
    {cFormT : Addr}
    {pFormT : Addr}
    {oFormT qFormT : Obj}
    (lFormT : K.lookup fForm = some oFormT)
    (dFormT : codeO oFormT = some (.ref cFormT))
    (mFormT : K.lookup cFormT = some qFormT)
    (tFormT : tabO qFormT = some (.ref pFormT))
    (hFormT : PySem.W.codeHdIn K cFormT pFormT = true)
    (nFormT : K.lookup pFormT = none)
    (eFormT : h.get? pFormT = some { cls := .none, data := .fields #[] })
    : LawG l w K 175 63 "_law_script" mg fa h := by
  have e := hfa.symm.trans (PySem.W.mg_of X G aLaw)
  cases e
  have TF : GloF mg := { toGloW := { toGlo := ⟨PySem.W.mg_none_of X G zlen, PySem.W.mg_none_of X G zabs, PySem.W.mg_none_of X G zint, PySem.W.mg_none_of X G zrange, PySem.W.mg_none_of X G zmax, PySem.W.mg_none_of X G zmin⟩, isinstance := PySem.W.mg_none_of X G zisinstance, tuple := PySem.W.mg_none_of X G ztuple, bool := PySem.W.mg_none_of X G zbool, set := PySem.W.mg_none_of X G zset, sorted := PySem.W.mg_none_of X G zsorted, str := PySem.W.mg_none_of X G zstr, dict := PySem.W.mg_none_of X G zdict }, repr := PySem.W.mg_none_of X G zrepr, list := PySem.W.mg_none_of X G zlist }
  have T : GloW mg := TF.toGloW
  obtain ⟨dIsInt, FIsInt⟩ := FIsInt
  obtain ⟨dLeaf, FLeaf⟩ := FLeaf
  obtain ⟨dNode, FNode⟩ := FNode
  obtain ⟨dCase, FCase⟩ := FCase
  obtain ⟨dTops, FTops⟩ := FTops
  obtain ⟨dChoice, FChoice⟩ := FChoice
  obtain ⟨dJoined, FJoined⟩ := FJoined
  obtain ⟨dCombined, FCombined⟩ := FCombined
  obtain ⟨dTurned, FTurned⟩ := FTurned
  obtain ⟨dNumbers, FNumbers⟩ := FNumbers
  obtain ⟨dReduced, FReduced⟩ := FReduced
  obtain ⟨dText, FText⟩ := FText
  obtain ⟨dTruthT, FTruthT⟩ := FTruthT
  obtain ⟨dTreeOf, FTreeOf⟩ := FTreeOf
  obtain ⟨dIsFig, FIsFig⟩ := FIsFig
  obtain ⟨dFigOf, FFigOf⟩ := FFigOf
  obtain ⟨dNumOf, FNumOf⟩ := FNumOf
  obtain ⟨dLeafOf, FLeafOf⟩ := FLeafOf
  obtain ⟨dParsed, FParsed⟩ := FParsed
  obtain ⟨dSound, FSound⟩ := FSound
  obtain ⟨dBox, FBox⟩ := FBox
  obtain ⟨dTake, FTake⟩ := FTake
  obtain ⟨dNums, FNums⟩ := FNums
  obtain ⟨dLeafL, FLeafL⟩ := FLeafL
  obtain ⟨dRaw, FRaw⟩ := FRaw
  obtain ⟨dValue, FValue⟩ := FValue
  obtain ⟨dTree, FTree⟩ := FTree
  obtain ⟨dForm, FForm⟩ := FForm
  obtain ⟨dFound, FFound⟩ := FFound
  obtain ⟨dTextL, FTextL⟩ := FTextL
  obtain ⟨dIs, FIs⟩ := FIs
  obtain ⟨dMixed, FMixed⟩ := FMixed
  obtain ⟨dTold8, FTold8⟩ := FTold8
  obtain ⟨dFig8, FFig8⟩ := FFig8
  obtain ⟨dLeaf8, FLeaf8⟩ := FLeaf8
  obtain ⟨dTok8, FTok8⟩ := FTok8
  obtain ⟨dRead8, FRead8⟩ := FRead8
  obtain ⟨dKinds8, FKinds8⟩ := FKinds8
  obtain ⟨dDeep8, FDeep8⟩ := FDeep8
  obtain ⟨dRight8, FRight8⟩ := FRight8
  obtain ⟨dLCases, FLCases⟩ := FLCases
  obtain ⟨dLBuilt, FLBuilt⟩ := FLBuilt
  obtain ⟨dMore8, FMore8⟩ := FMore8
  obtain ⟨dAsB, FAsB⟩ := FAsB
  obtain ⟨dChain8, FChain8⟩ := FChain8
  obtain ⟨dSpoil8, FSpoil8⟩ := FSpoil8
  obtain ⟨dRow8, FRow8⟩ := FRow8
  obtain ⟨dLaw, FLaw⟩ := FLaw
  obtain ⟨eInit, MInit⟩ := MInit
  obtain ⟨eEq, MEq⟩ := MEq
  obtain ⟨eStr, MStr⟩ := MStr
  obtain ⟨eRepr, MRepr⟩ := MRepr
  obtain ⟨eCall, MCall⟩ := MCall
  obtain ⟨eCases, MCases⟩ := MCases
  obtain ⟨eAdd, MAdd⟩ := MAdd
  obtain ⟨eOf, MOf⟩ := MOf
  obtain ⟨eEither, MEither⟩ := MEither
  obtain ⟨eRead, MRead⟩ := MRead
  obtain ⟨hWords, MWords⟩ := MWords
  obtain ⟨hPlain, MPlain⟩ := MPlain
  obtain ⟨hIsT, MIsT⟩ := MIsT
  refine ⟨dLaw, [(cFormT, pFormT)], spLaw K [(pFormT, ("_law_form" : Str) ++ ".<locals>." ++ "<lambda>")], List.forall_mem_cons.mpr ⟨eFormT, (fun p hp => nomatch hp)⟩, List.forall_mem_cons.mpr ⟨nFormT, (fun p hp => nomatch hp)⟩, List.forall_mem_cons.mpr ⟨PySem.W.codeHd_of_K X hFormT, (fun p hp => nomatch hp)⟩, ?_, fun H a ns hl _ hT hS => ⟨a, ns, rfl, hS, hl, ?_, fun _ => rfl⟩, fun base _ _ TB => ?_⟩
  · intro s v
    obtain ⟨oc, od, kV, doc, pm, an, cdv, ct, osl, rfl, lk, hcd⟩ := FLaw.ex
    exact .of_eq rfl
  · exact List.forall_mem_cons.mpr ⟨TabS.nil (hT (cFormT, pFormT) (by simp)), (fun p hp => nomatch hp)⟩
  have TBForm : TabB base mg cFormT pFormT := TB (cFormT, pFormT) (by simp)
  have memForm : (pFormT, ("_law_form" : Str) ++ ".<locals>." ++ "<lambda>") ∈ [(pFormT, ("_law_form" : Str) ++ ".<locals>." ++ "<lambda>")] := by simp
  have uniForm : ∀ p ∈ [(pFormT, ("_law_form" : Str) ++ ".<locals>." ++ "<lambda>")], p.1 = pFormT → p.2 = ("_law_form" : Str) ++ ".<locals>." ++ "<lambda>" := List.forall_mem_cons.mpr ⟨fun _ => rfl, (fun p hp => nomatch hp)⟩
  have DInt : Df l.prog w K mg base "is_integer" 1 ["value"] (spIsInt K) := ⟨fIsInt, dIsInt, ok_isint FIsInt T, PySem.W.mg_of X G aIsInt, FIsInt.kp, FIsInt.binds (fun _ _ _ _ _ _ us hl => match us, hl with | [_], _ => rfl)⟩
  have DLeaf : Df l.prog w K mg base "is_leaf" 1 ["tree"] spLeaf := ⟨fLeaf, dLeaf, ok_leaf FLeaf T, PySem.W.mg_of X G aLeaf, FLeaf.kp, FLeaf.binds (fun _ _ _ _ _ _ us hl => match us, hl with | [_], _ => rfl)⟩
  have DNode : Df l.prog w K mg base "node" 1 ["number", "yes", "no"] spNode := ⟨fNode, dNode, ok_node FNode T, PySem.W.mg_of X G aNode, FNode.kp, FNode.binds (fun _ _ _ _ _ _ us hl => match us, hl with | [_, _, _], _ => rfl)⟩
  have DCase : Df l.prog w K mg base "case_of" 2 ["tree", "number", "truth"] spCase := ⟨fCase, dCase, ok_case FCase T DLeaf, PySem.W.mg_of X G aCase, FCase.kp, FCase.binds (fun _ _ _ _ _ _ us hl => match us, hl with | [_, _, _], _ => rfl)⟩
  have DTops : DfR l.prog w K mg base "tops" 2 spTops := ⟨fTops, ok_tops FTops T DLeaf, PySem.W.mg_of X G aTops, FTops.kp⟩
  have DJoined : Df l.prog w K mg base "joined" 1 ["sign", "one", "other"] spJoined := ⟨fJoined, dJoined, ok_joined FJoined T, PySem.W.mg_of X G aJoined, FJoined.kp, FJoined.binds (fun _ _ _ _ _ _ us hl => match us, hl with | [_, _, _], _ => rfl)⟩
  have DChoice : Df l.prog w K mg base "choice" 23 ["number", "yes", "no"] (spChoice 20) := ⟨fChoice, dChoice, ok_choice FChoice T DNode DCase DTops (PySem.W.mg_of X G aChoice) 20 (by decide), PySem.W.mg_of X G aChoice, FChoice.kp, FChoice.binds (fun _ _ _ _ _ _ us hl => match us, hl with | [_, _, _], _ => rfl)⟩
  have DCombined : Df l.prog w K mg base "combined" 23 ["sign", "one", "other"] (spCombined 20) := ⟨fCombined, dCombined, ok_combined FCombined T DNode DCase DTops DJoined (PySem.W.mg_of X G aCombined) 20 (by decide), PySem.W.mg_of X G aCombined, FCombined.kp, FCombined.binds (fun _ _ _ _ _ _ us hl => match us, hl with | [_, _, _], _ => rfl)⟩
  have DTurned : Df l.prog w K mg base "turned" 23 ["tree"] (spTurned 21) := ⟨fTurned, dTurned, ok_turned FTurned T DLeaf DNode (PySem.W.mg_of X G aTurned) 21 (by decide), PySem.W.mg_of X G aTurned, FTurned.kp, FTurned.binds (fun _ _ _ _ _ _ us hl => match us, hl with | [_], _ => rfl)⟩
  have DNumbers : Df l.prog w K mg base "numbers_in" 23 ["tree"] (spNumbers 21) := ⟨fNumbers, dNumbers, ok_numbers FNumbers T DLeaf (PySem.W.mg_of X G aNumbers) 21 (by decide), PySem.W.mg_of X G aNumbers, FNumbers.kp, FNumbers.binds (fun _ _ _ _ _ _ us hl => match us, hl with | [_], _ => rfl)⟩
  have DReduced : Df l.prog w K mg base "reduced" 23 ["tree", "words"] (spReduced 21) := ⟨fReduced, dReduced, ok_reduced FReduced T DLeaf DNode (PySem.W.mg_of X G aReduced) 21 (by decide), PySem.W.mg_of X G aReduced, FReduced.kp, FReduced.binds (fun _ _ _ _ _ _ us hl => match us, hl with | [_, _], _ => rfl)⟩
  have DText : Df l.prog w K mg base "tree_text" 23 ["tree"] (spText 21) := ⟨fText, dText, ok_text FText T DLeaf (PySem.W.mg_of X G aText) 21, PySem.W.mg_of X G aText, FText.kp, FText.binds (fun _ _ _ _ _ _ us hl => match us, hl with | [_], _ => rfl)⟩
  have DTruth : Df l.prog w K mg base "is_truth_tree" 23 ["tree"] (spTruthT 21) := ⟨fTruthT, dTruthT, ok_truthT FTruthT T DLeaf (PySem.W.mg_of X G aTruthT) 21, PySem.W.mg_of X G aTruthT, FTruthT.kp, FTruthT.binds (fun _ _ _ _ _ _ us hl => match us, hl with | [_], _ => rfl)⟩
  have W0 : WCl K mg C := ⟨PySem.W.mg_of X G aC, ⟨pgC, hdC, poC, saC⟩, ntC, caC, cnC, ctC, cmC, kwC, kiC, kbC⟩
  have W1 : WMk l.prog w K mg base C := { toWCl := W0, made := ⟨gInit, eInit, ⟨mkC, bInit, iInit, kpC⟩, ok_wInit MInit W0, MInit.binds (fun _ _ _ _ _ _ us hl => match us, hl with | [_, _], _ => rfl)⟩ }
  have D : WD l.prog w K mg base C := ⟨DLeaf, DInt, DChoice, DCombined, DTurned, DNumbers, DReduced, DText, DTruth⟩
  have DTree : Df l.prog w K mg base "tree_of" 2 ["value"] (spTreeOf C) := ⟨fTreeOf, dTreeOf, ok_treeOf FTreeOf T W0 DInt, PySem.W.mg_of X G aTreeOf, FTreeOf.kp, FTreeOf.binds (fun _ _ _ _ _ _ us hl => match us, hl with | [_], _ => rfl)⟩
  have PW : PrW l.prog w K mg base C "words" 24 (spWords C) := ⟨pWords, gWords, hWords, ⟨bWords, eWords, kWords, cWords⟩, ok_wWords MWords T W1 D, MWords.binds (fun _ _ _ _ _ _ us hl => match us, hl with | [_], _ => rfl)⟩
  have PP : PrW l.prog w K mg base C "plain" 24 (spPlain C) := ⟨pPlain, gPlain, hPlain, ⟨bPlain, ePlain, kPlain, cPlain⟩, ok_wPlain MPlain W1 D, MPlain.binds (fun _ _ _ _ _ _ us hl => match us, hl with | [_], _ => rfl)⟩
  have PI : PrW l.prog w K mg base C "is_truth" 24 (spIsT C) := ⟨pIsT, gIsT, hIsT, ⟨bIsT, eIsT, kIsT, cIsT⟩, ok_wIsT MIsT W1 D, MIsT.binds (fun _ _ _ _ _ _ us hl => match us, hl with | [_], _ => rfl)⟩
  have SOf : SmD l.prog w K mg base C "of" 3 (spOf C) := ⟨gOf, ⟨PySem.W.mg_of X G aC, mc, ⟨rC, gC⟩, pOf, cOf.elim fun r hr => ⟨r, bOf, hr⟩⟩, ⟨md_of (ok_wOf MOf W1 DTree) (MOf.binds (fun _ _ _ _ _ _ us hl => match us, hl with | [_], _ => rfl)), iOf, MOf.kp⟩⟩
  have SEi : SmD l.prog w K mg base C "either" 24 (spEither C) := ⟨gEither, ⟨PySem.W.mg_of X G aC, mc, ⟨rC, gC⟩, pEither, cEither.elim fun r hr => ⟨r, bEither, hr⟩⟩, ⟨md_of (ok_wEither MEither W1 D DTree) (MEither.binds (fun _ _ _ _ _ _ us hl => match us, hl with | [_, _, _], _ => rfl)), iEither, MEither.kp⟩⟩
  have DTk : Df l.prog w K mg base "_law_take" 1 ["_law_box_here", "_law_many"] spTk := ⟨fTake, dTake, (ok_take FTake T.toGlo).imp fun _ _ _ _ h => spTk_of h, PySem.W.mg_of X G aTake, FTake.kp, FTake.binds (fun _ _ _ _ _ _ us hl => match us, hl with | [_, _], _ => rfl)⟩
  have DB : Df l.prog w K mg base "_law_box" 1 ["_law_script", "_law_k", "_law_own"] (spBox K) := ⟨fBox, dBox, ok_box FBox T.toGlo, PySem.W.mg_of X G aBox, FBox.kp, FBox.binds (fun _ _ _ _ _ _ us hl => match us, hl with | [_, _, _], _ => rfl)⟩
  have DLeafL : Df l.prog w K mg base "_law_leaf" 2 ["_law_box_here", "_law_is_truth"] spLeafL := ⟨fLeafL, dLeafL, ok_leafL FLeafL DTk, PySem.W.mg_of X G aLeafL, FLeafL.kp, FLeafL.binds (fun _ _ _ _ _ _ us hl => match us, hl with | [_, _], _ => rfl)⟩
  have DRaw : Df l.prog w K mg base "_law_raw" 10 ["_law_box_here", "_law_numbers_here", "_law_is_truth", "_law_deep_here"] (spRaw 7) := ⟨fRaw, dRaw, ok_raw FRaw T DTk DLeafL (PySem.W.mg_of X G aRaw) 7, PySem.W.mg_of X G aRaw, FRaw.kp, FRaw.binds (fun _ _ _ _ _ _ us hl => match us, hl with | [_, _, _, _], _ => rfl)⟩
  have DValue : Df l.prog w K mg base "_law_value" 1 ["_law_raw_here", "_law_words"] spValue := ⟨fValue, dValue, ok_value FValue T, PySem.W.mg_of X G aValue, FValue.kp, FValue.binds (fun _ _ _ _ _ _ us hl => match us, hl with | [_, _], _ => rfl)⟩
  have DTr : DfG l.prog w K mg base "_law_tree" 19 ["_law_numbers_here", "_law_words", "_law_ask"] (spTree l.prog w K mg base 13) := ⟨fTree, dTree, ok_tree FTree TF (PySem.W.mg_of X G aTree) 13, PySem.W.mg_of X G aTree, FTree.kp, FTree.binds (fun _ _ _ _ _ _ us hl => match us, hl with | [_, _, _], _ => rfl)⟩
  have DForm : DfG l.prog w K mg base "_law_form" 20 ["_law_numbers_here", "_law_raw_here"] (spForm [(pFormT, ("_law_form" : Str) ++ ".<locals>." ++ "<lambda>")]) := ⟨fForm, dForm, ok_form FForm (code_of lFormT dFormT) TBForm memForm uniForm DTr DValue, PySem.W.mg_of X G aForm, FForm.kp, FForm.binds (fun _ _ _ _ _ _ us hl => match us, hl with | [_, _], _ => rfl)⟩
  obtain ⟨dNW, FNW⟩ := FNW
  have TN : NwT K mg SE CN mcS := ⟨PySem.W.mg_of X G aS, ⟨rS, gS⟩, vS, PySem.W.mg_of X G mNW, xNW, fNW⟩
  have XN : Xcl l.prog w K mg base "NoWorth" CN "value" := ⟨_, _, iN, dNW, xNW, jNW, tNW, ok_NoWorth FNW TN, FNW.binds (fun _ _ _ _ _ _ us hl => match us, hl with | [_, _], _ => rfl), (fun s a u _ => by
    obtain ⟨oc, od, kV, doc, pm, an, cdv, ct, osl, e0, lk, hcd⟩ := FNW.ex
    rw [e0]
    exact .of_eq rfl), PySem.W.mg_of X G mNW, fNW⟩
  have NK : ∀ ty ∈ noW, PySem.W.kitOne K (.type ty) (.ref C) = some false := show ∀ ty ∈ (["NoneType", "str", "tuple", "list"] : List String), PySem.W.kitOne K (.type ty) (.ref C) = some false from List.forall_mem_cons.mpr ⟨kwNoneType, List.forall_mem_cons.mpr ⟨kwstr, List.forall_mem_cons.mpr ⟨kwtuple, List.forall_mem_cons.mpr ⟨kwlist, fun p hp => nomatch hp⟩⟩⟩⟩
  have MT : MdX l.prog w K mg base 3 fTreeOf (fun vs H Q E => spTreeOf C vs H Q E ∨ spTreeX K CN vs H Q E) := ⟨fnR_or (fnR_cx ((md_of (ok_treeOf FTreeOf T W0 DInt) (FTreeOf.binds (fun _ _ _ _ _ _ us hl => match us, hl with | [_], _ => rfl))).mono (by decide))) (mdx_of (ok_treeX FTreeOf T W0 NK XN DInt) (FTreeOf.binds (fun _ _ _ _ _ _ us hl => match us, hl with | [_], _ => rfl))), iTreeOf, FTreeOf.kp⟩
  have GP : GloP K mg := { toGlo := T.toGlo, all := PySem.W.mg_none_of X G zall, str := T.str, tuple := T.tuple, sorted := T.sorted, enumerate := PySem.W.mg_none_of X G zenumerate, repr := TF.repr, list := TF.list, isinstance := T.isinstance, digits := gDigits.elim fun t ht => ⟨_, PySem.W.mg_of X G ht, t, rfl⟩, lfig := gLfig.elim fun t ht => ⟨_, PySem.W.mg_of X G ht, t, rfl⟩ }
  have HD : ∃ u, mg "DEEPEST" = some u ∧ RelV (.int 12) u := gDeepest.elim fun t ht => ⟨_, PySem.W.mg_of X G ht, t, rfl⟩
  have X8 : Xc8 K mg SE CN CH := ⟨PySem.W.mg_of X G aS, PySem.W.mg_of X G mNW, PySem.W.mg_of X G mHO, xNW, fNW, exS, kNN, kNH⟩
  have DIF : Df l.prog w K mg base "is_figure" 1 ["text"] spIsFig := ⟨fIsFig, dIsFig, ok_isFig FIsFig GP, PySem.W.mg_of X G aIsFig, FIsFig.kp, FIsFig.binds (fun _ _ _ _ _ _ us hl => match us, hl with | [_], _ => rfl)⟩
  have DFO : Df l.prog w K mg base "figure_of" 2 ["text"] spFigOf := ⟨fFigOf, dFigOf, ok_figOf FFigOf GP DIF, PySem.W.mg_of X G aFigOf, FFigOf.kp, FFigOf.binds (fun _ _ _ _ _ _ us hl => match us, hl with | [_], _ => rfl)⟩
  have DNO : Df l.prog w K mg base "number_of" 3 ["text"] spNumOf := ⟨fNumOf, dNumOf, ok_numOf FNumOf GP DFO, PySem.W.mg_of X G aNumOf, FNumOf.kp, FNumOf.binds (fun _ _ _ _ _ _ us hl => match us, hl with | [_], _ => rfl)⟩
  have DLO : Df l.prog w K mg base "leaf_of" 4 ["word"] spLeafOf := ⟨fLeafOf, dLeafOf, ok_leafOf FLeafOf GP DNO, PySem.W.mg_of X G aLeafOf, FLeafOf.kp, FLeafOf.binds (fun _ _ _ _ _ _ us hl => match us, hl with | [_], _ => rfl)⟩
  have DPa : Df l.prog w K mg base "parsed" 18 ["words", "at", "deep"] (spParsed 13) := ⟨fParsed, dParsed, ok_parsed FParsed GP HD DLO DFO (PySem.W.mg_of X G aParsed) 13, PySem.W.mg_of X G aParsed, FParsed.kp, FParsed.binds (fun _ _ _ _ _ _ us hl => match us, hl with | [_, _, _], _ => rfl)⟩
  have DSo : Df l.prog w K mg base "is_sound" 16 ["tree", "least", "is_truth"] (spSound 14) := ⟨fSound, dSound, ok_sound FSound T DLeaf (PySem.W.mg_of X G aSound) 14, PySem.W.mg_of X G aSound, FSound.kp, FSound.binds (fun _ _ _ _ _ _ us hl => match us, hl with | [_, _, _], _ => rfl)⟩
  have DTL : Df l.prog w K mg base "is_truth_tree" 16 ["tree"] (spTruthL 14) := ⟨fTruthT, dTruthT, ok_truthL FTruthT T DLeaf (PySem.W.mg_of X G aTruthT) 14, PySem.W.mg_of X G aTruthT, FTruthT.kp, FTruthT.binds (fun _ _ _ _ _ _ us hl => match us, hl with | [_], _ => rfl)⟩
  have DTX : Df l.prog w K mg base "tree_text" 15 ["tree"] (spText 13) := ⟨fText, dText, ok_text FText T DLeaf (PySem.W.mg_of X G aText) 13, PySem.W.mg_of X G aText, FText.kp, FText.binds (fun _ _ _ _ _ _ us hl => match us, hl with | [_], _ => rfl)⟩
  have ME : MdX l.prog w K mg base 24 gRead (spReadB C CN) := ⟨fnR_or (fnR_cx (md_of (ok_wRead MRead W1 DPa DSo DTL DTX) (MRead.binds (fun _ _ _ _ _ _ us hl => match us, hl with | [_], _ => rfl)))) (mdx_of (ok_wReadX MRead W1 XN DPa DSo DTL DTX) (MRead.binds (fun _ _ _ _ _ _ us hl => match us, hl with | [_], _ => rfl))), iRead, MRead.kp⟩
  have SX : Stm K mg "Worth" C "read" gRead := ⟨PySem.W.mg_of X G aC, mc, ⟨rC, gC⟩, pRead, cRead.elim fun r hr => ⟨r, bRead, hr⟩⟩
  have DTold : Df l.prog w K mg base "_law_told" 25 ["_law_text_here"] (spTold8 C) := ⟨fTold8, dTold8, ok_told8 FTold8 T X8 SX ME, PySem.W.mg_of X G aTold8, FTold8.kp, FTold8.binds (fun _ _ _ _ _ _ us hl => match us, hl with | [_], _ => rfl)⟩
  have DNu9 : Df l.prog w K mg base "numbers_in" 23 ["tree"] (spNumbers9 21) := ⟨fNumbers, dNumbers, ok_numbers9 FNumbers T DLeaf (PySem.W.mg_of X G aNumbers) 21 (by decide), PySem.W.mg_of X G aNumbers, FNumbers.kp, FNumbers.binds (fun _ _ _ _ _ _ us hl => match us, hl with | [_], _ => rfl)⟩
  have DRe9 : Df l.prog w K mg base "reduced" 23 ["tree", "words"] (spReduced9 21) := ⟨fReduced, dReduced, ok_reduced9 FReduced T DLeaf DNode (PySem.W.mg_of X G aReduced) 21 (by decide), PySem.W.mg_of X G aReduced, FReduced.kp, FReduced.binds (fun _ _ _ _ _ _ us hl => match us, hl with | [_, _], _ => rfl)⟩
  have PW9 : PrW l.prog w K mg base C "words" 24 (spWords9 C) := ⟨pWords, gWords, hWords, ⟨bWords, eWords, kWords, cWords⟩, ok_wWords9 MWords T W1 DNu9, MWords.binds (fun _ _ _ _ _ _ us hl => match us, hl with | [_], _ => rfl)⟩
  have WI9 : WIs9 l.prog w K mg base C := { toWCl := W0, words := PW9, plain := PP, isT := PI, str := ⟨gStr, bStr, ⟨md_of (ok_wStr MStr W1 D) (MStr.binds (fun _ _ _ _ _ _ us hl => match us, hl with | [_], _ => rfl)), iStr, MStr.kp⟩⟩, rpr := ⟨gRepr, bRepr, ⟨md_of (ok_wRepr MRepr W0 D) (MRepr.binds (fun _ _ _ _ _ _ us hl => match us, hl with | [_], _ => rfl)), iRepr, MRepr.kp⟩⟩ }
  have DFo9 : Df l.prog w K mg base "_law_found" 14 ["_law_tree_here"] (spFound9 13) := ⟨fFound, dFound, ok_found9 FFound T (PySem.W.mg_of X G aFound) 13 (by decide), PySem.W.mg_of X G aFound, FFound.kp, FFound.binds (fun _ _ _ _ _ _ us hl => match us, hl with | [_], _ => rfl)⟩
  have DTx14 : Df l.prog w K mg base "_law_text" 14 ["_law_tree_here"] (spText 13) := ⟨fTextL, dTextL, ok_textL FTextL T (PySem.W.mg_of X G aTextL) 13, PySem.W.mg_of X G aTextL, FTextL.kp, FTextL.binds (fun _ _ _ _ _ _ us hl => match us, hl with | [_], _ => rfl)⟩
  have DTx17 : Df l.prog w K mg base "_law_text" 17 ["_law_tree_here"] (spText9 16) := ⟨fTextL, dTextL, ok_textL9 FTextL T (PySem.W.mg_of X G aTextL) 16, PySem.W.mg_of X G aTextL, FTextL.kp, FTextL.binds (fun _ _ _ _ _ _ us hl => match us, hl with | [_], _ => rfl)⟩
  have DIs9 : DfG l.prog w K mg base "_law_is" 28 ["_law_worth", "_law_tree_here"] (spIs9 C) := ⟨fIs, dIs, ok_is9 FIs TF WI9 DTx14 DFo9, PySem.W.mg_of X G aIs, FIs.kp, FIs.binds (fun _ _ _ _ _ _ us hl => match us, hl with | [_, _], _ => rfl)⟩
  have DCho9 : Df l.prog w K mg base "choice" 3 ["number", "yes", "no"] spChoice9 := ⟨fChoice, dChoice, ok_choice9 FChoice T DNode DCase DTops, PySem.W.mg_of X G aChoice, FChoice.kp, FChoice.binds (fun _ _ _ _ _ _ us hl => match us, hl with | [_, _, _], _ => rfl)⟩
  have SEi9 : SmD l.prog w K mg base C "either" 24 (spEither9 C) := ⟨gEither, ⟨PySem.W.mg_of X G aC, mc, ⟨rC, gC⟩, pEither, cEither.elim fun r hr => ⟨r, bEither, hr⟩⟩, ⟨md_of (ok_wEither9 MEither W1 D DTree DCho9) (MEither.binds (fun _ _ _ _ _ _ us hl => match us, hl with | [_, _, _], _ => rfl)), iEither, MEither.kp⟩⟩
  have DCmb9 : Df l.prog w K mg base "combined" 24 ["sign", "one", "other"] (spComb9 21) := ⟨fCombined, dCombined, ok_comb9 FCombined T DNode DCase DTops DJoined (PySem.W.mg_of X G aCombined) 21, PySem.W.mg_of X G aCombined, FCombined.kp, FCombined.binds (fun _ _ _ _ _ _ us hl => match us, hl with | [_, _, _], _ => rfl)⟩
  have WB : WB8 l.prog w K mg base C := ⟨W0.cl, ⟨gEq, bEq, ⟨md_of (ok_wEq MEq T W1 PI) (MEq.binds (fun _ _ _ _ _ _ us hl => match us, hl with | [_, _], _ => rfl)), iEq, MEq.kp⟩, neC, obC⟩, ⟨gCall, ⟨bCall, iCall, fiCall⟩, md_of (ok_wCall9 MCall T W1 DRe9 PW9) (MCall.binds (fun _ _ _ _ _ _ us hl => match us, hl with | [_, _], _ => rfl))⟩, ⟨gCases, eCases, ⟨bCases, iCases, MCases.kp⟩, ok_wCasesG MCases W1 D, MCases.binds (fun _ _ _ _ _ _ us hl => match us, hl with | [_], _ => rfl)⟩, PI, ⟨gStr, bStr, ⟨md_of (ok_wStr MStr W1 D) (MStr.binds (fun _ _ _ _ _ _ us hl => match us, hl with | [_], _ => rfl)), iStr, MStr.kp⟩⟩, sfC, ⟨gAdd, bAdd, ⟨md_of (ok_wAdd9 MAdd W1 DTree DCmb9) (MAdd.binds (fun _ _ _ _ _ _ us hl => match us, hl with | [_, _], _ => rfl)), iAdd, MAdd.kp⟩⟩, otAddint⟩
  have DCa : Df l.prog w K mg base "_law_cases" 14 ["_law_tree_here", "_law_words"] (spLCases 13) := ⟨fLCases, dLCases, ok_lCases FLCases TF (PySem.W.mg_of X G aLCases) 13, PySem.W.mg_of X G aLCases, FLCases.kp, FLCases.binds (fun _ _ _ _ _ _ us hl => match us, hl with | [_, _], _ => rfl)⟩
  have DBu : Df l.prog w K mg base "_law_built" 38 ["_law_tree_here"] (spLBuilt C 13) := ⟨fLBuilt, dLBuilt, ok_lBuilt FLBuilt T SOf SEi9 (PySem.W.mg_of X G aLBuilt) 13, PySem.W.mg_of X G aLBuilt, FLBuilt.kp, FLBuilt.binds (fun _ _ _ _ _ _ us hl => match us, hl with | [_], _ => rfl)⟩
  have DMo : Df l.prog w K mg base "_law_more" 14 ["_law_tree_here"] (spMore8 13) := ⟨fMore8, dMore8, ok_more8 FMore8 T (PySem.W.mg_of X G aMore8) 13, PySem.W.mg_of X G aMore8, FMore8.kp, FMore8.binds (fun _ _ _ _ _ _ us hl => match us, hl with | [_], _ => rfl)⟩
  have DAs : DfG l.prog w K mg base "_law_as_built" 40 ["_law_found_here", "_law_tree_here"] (spAsB C) := ⟨fAsB, dAsB, ok_asB FAsB TF WB DCa DBu DFo9 DTx14 DMo, PySem.W.mg_of X G aAsB, FAsB.kp, FAsB.binds (fun _ _ _ _ _ _ us hl => match us, hl with | [_, _], _ => rfl)⟩
  have DFg : Df l.prog w K mg base "_law_figure" 1 ["_law_word"] spFig8 := ⟨fFig8, dFig8, ok_fig8 FFig8 GP, PySem.W.mg_of X G aFig8, FFig8.kp, FFig8.binds (fun _ _ _ _ _ _ us hl => match us, hl with | [_], _ => rfl)⟩
  have DL8 : Df l.prog w K mg base "_law_leaf_of" 2 ["_law_word"] spLeaf8 := ⟨fLeaf8, dLeaf8, ok_leaf8 FLeaf8 GP DFg, PySem.W.mg_of X G aLeaf8, FLeaf8.kp, FLeaf8.binds (fun _ _ _ _ _ _ us hl => match us, hl with | [_], _ => rfl)⟩
  have DTo : Df l.prog w K mg base "_law_tokens" 1 ["_law_text_here"] spTok8 := ⟨fTok8, dTok8, ok_tok8 FTok8 GP, PySem.W.mg_of X G aTok8, FTok8.kp, FTok8.binds (fun _ _ _ _ _ _ us hl => match us, hl with | [_], _ => rfl)⟩
  have DRd : DfG l.prog w K mg base "_law_read" 3 ["_law_text_here"] spRead8 := ⟨fRead8, dRead8, ok_read8 FRead8 GP T T.str DTo DL8, PySem.W.mg_of X G aRead8, FRead8.kp, FRead8.binds (fun _ _ _ _ _ _ us hl => match us, hl with | [_], _ => rfl)⟩
  have DKi : DfG l.prog w K mg base "_law_kinds" 172 ["_law_tree_here"] (spKinds8 171) := ⟨fKinds8, dKinds8, ok_kinds8 FKinds8 T TF.repr (PySem.W.mg_of X G aKinds8) 171, PySem.W.mg_of X G aKinds8, FKinds8.kp, FKinds8.binds (fun _ _ _ _ _ _ us hl => match us, hl with | [_], _ => rfl)⟩
  have DDe : Df l.prog w K mg base "_law_deep" 172 ["_law_tree_here"] (spDeep8 171) := ⟨fDeep8, dDeep8, ok_deep8 FDeep8 T T.max (PySem.W.mg_of X G aDeep8) 171, PySem.W.mg_of X G aDeep8, FDeep8.kp, FDeep8.binds (fun _ _ _ _ _ _ us hl => match us, hl with | [_], _ => rfl)⟩
  have DRi : DfG l.prog w K mg base "_law_right" 173 ["_law_text_here"] spRight8 := ⟨fRight8, dRight8, ok_right8 FRight8 TF WI9 T.set DRd DTold DKi DDe DIs9 DAs, PySem.W.mg_of X G aRight8, FRight8.kp, FRight8.binds (fun _ _ _ _ _ _ us hl => match us, hl with | [_], _ => rfl)⟩
  have DCh : Df l.prog w K mg base "_law_chain" 1 ["_law_many"] spChain8 := ⟨fChain8, dChain8, ok_chain8 FChain8 GP T.range T.str, PySem.W.mg_of X G aChain8, FChain8.kp, FChain8.binds (fun _ _ _ _ _ _ us hl => match us, hl with | [_], _ => rfl)⟩
  have DRw : DfG l.prog w K mg base "_law_row" 3 ["_law_box_here", "_law_many"] spLRow := ⟨fRow8, dRow8, ok_lRow FRow8 TF DTk DLeafL, PySem.W.mg_of X G aRow8, FRow8.kp, FRow8.binds (fun _ _ _ _ _ _ us hl => match us, hl with | [_, _], _ => rfl)⟩
  have DSp : Df l.prog w K mg base "_law_spoilt" 2 ["_law_box_here", "_law_text_here"] spSpoil8 := ⟨fSpoil8, dSpoil8, ok_spoil8 FSpoil8 GP DTk, PySem.W.mg_of X G aSpoil8, FSpoil8.kp, FSpoil8.binds (fun _ _ _ _ _ _ us hl => match us, hl with | [_, _], _ => rfl)⟩
  have DMx : Df l.prog w K mg base "_law_mixed" 2 ["_law_box_here", "_law_items"] spMixed := ⟨fMixed, dMixed, ok_mixed FMixed GP DTk, PySem.W.mg_of X G aMixed, FMixed.kp, FMixed.binds (fun _ _ _ _ _ _ us hl => match us, hl with | [_, _], _ => rfl)⟩
  have DNu : Df l.prog w K mg base "_law_numbers" 2 ["_law_box_here", "_law_many"] spNums9 := ⟨fNums, dNums, ok_nums9 FNums T DTk, PySem.W.mg_of X G aNums, FNums.kp, FNums.binds (fun _ _ _ _ _ _ us hl => match us, hl with | [_, _], _ => rfl)⟩
  exact ok_law FLaw TF GP W0 kwtuple DTk DB DNu DRaw DForm DTx17 DTold DCh DRw DSp DMx DIs9 DRi
theorem walk {l : PySem.W.OpenLaw} {q : Program} {loose : List Str} {XP : (Str → Option Value) → Heap → Prop} {YP : World → Heap → Prop} {d : DefRec} {K : Params → PySem.W.Frag} (hn : l.most = some 63) (hdf : d.params.defaults = [])
    (hY : ∀ (w : World) (h : Heap), YP w h → (K w.params).In h)
    (F : ∀ (w : World) (mg : Str → Option Value) (fa : Addr) (h : Heap), YP w h → (K w.params).In h → h.Ns mainGlobals mg → mg d.name = some (.ref fa) → LawG l w (K w.params) 175 63 "_law_script" mg fa h) :
    PySem.W.WalkO q loose XP YP l.row.toRowW d [] (fun f vs => PySem.call f vs) :=
  walk_ofGT (n := 63) (k := 175) (x := "_law_script") hn (by decide) hdf ⟨rfl, by decide, by decide⟩ hY F
end Law
set_option Elab.async false
open PySem PySem.W PyProof.Rows in
set_option maxRecDepth 100000 in
set_option maxHeartbeats 0 in
theorem PySem.Challenge.cw_corridors_k08_texts_of_worths_holds : PySem.Challenge.rw_corridors_k08_texts_of_worths.Holds := by
  w_on; o_law; k_head; (case hw => w_witness2)
  k_fill
  refine Law.walk (l := PySem.Challenge.rw_corridors_k08_texts_of_worths) rfl rfl (fun w h Y => PySem.W.km_in_of Y) ?F
  case F =>
    intro w mg fa h Y KX G hmg
    refine' Law.all_mk KX G hmg ?zlen ?zabs ?zint ?zrange ?zmax ?zmin ?zisinstance ?ztuple ?zbool ?zset ?zsorted ?zstr ?zdict ?zrepr ?zlist ?aIsInt ?FIsInt ?aLeaf ?FLeaf ?aNode ?FNode ?aCase ?FCase ?aTops ?FTops ?aChoice ?FChoice ?aJoined ?FJoined ?aCombined ?FCombined ?aTurned ?FTurned ?aNumbers ?FNumbers ?aReduced ?FReduced ?aText ?FText ?aTruthT ?FTruthT ?aTreeOf ?FTreeOf ?aIsFig ?FIsFig ?aFigOf ?FFigOf ?aNumOf ?FNumOf ?aLeafOf ?FLeafOf ?aParsed ?FParsed ?aSound ?FSound ?aBox ?FBox ?aTake ?FTake ?aNums ?FNums ?aLeafL ?FLeafL ?aRaw ?FRaw ?aValue ?FValue ?aTree ?FTree ?aForm ?FForm ?aFound ?FFound ?aTextL ?FTextL ?aIs ?FIs ?aMixed ?FMixed ?aTold8 ?FTold8 ?aFig8 ?FFig8 ?aLeaf8 ?FLeaf8 ?aTok8 ?FTok8 ?aRead8 ?FRead8 ?aKinds8 ?FKinds8 ?aDeep8 ?FDeep8 ?aRight8 ?FRight8 ?aLCases ?FLCases ?aLBuilt ?FLBuilt ?aMore8 ?FMore8 ?aAsB ?FAsB ?aChain8 ?FChain8 ?aSpoil8 ?FSpoil8 ?aRow8 ?FRow8 ?aLaw ?FLaw ?aC ?tC ?gC ?rC ?pgC ?hdC ?poC ?saC ?ntC ?caC ?cnC ?ctC ?cmC ?kwC ?kiC ?kbC ?mkC ?kpC ?sfC ?neC ?obC ?otAddint ?aS ?tS ?gS ?rS ?vS ?mNW ?xNW ?fNW ?jNW ?tNW ?FNW ?mHO ?zVE ?exS ?kNN ?kNV ?kNH ?kwNoneType ?kwstr ?kwtuple ?kwlist ?iTreeOf ?zall ?zenumerate ?gDigits ?gLfig ?gDeepest ?bInit ?iInit ?MInit ?bEq ?iEq ?MEq ?bStr ?iStr ?MStr ?bRepr ?iRepr ?MRepr ?bCall ?iCall ?MCall ?bCases ?iCases ?MCases ?bAdd ?iAdd ?MAdd ?fiCall ?bOf ?cOf ?iOf ?MOf ?bEither ?cEither ?iEither ?MEither ?bRead ?cRead ?iRead ?MRead ?bWords ?eWords ?kWords ?cWords ?MWords ?bPlain ?ePlain ?kPlain ?cPlain ?MPlain ?bIsT ?eIsT ?kIsT ?cIsT ?MIsT ?lFormT ?dFormT ?mFormT ?tFormT ?hFormT ?nFormT ?eFormT
    (case zlen => k_is)
    (case zabs => k_is)
    (case zint => k_is)
    (case zrange => k_is)
    (case zmax => k_is)
    (case zmin => k_is)
    (case zisinstance => k_is)
    (case ztuple => k_is)
    (case zbool => k_is)
    (case zset => k_is)
    (case zsorted => k_is)
    (case zstr => k_is)
    (case zdict => k_is)
    (case zrepr => k_is)
    (case zlist => k_is)
    (case aIsInt => k_is)
    (case FIsInt => exact ⟨_, L2.fun_mk (by k_is) (by k_is) (by k_is)⟩)
    (case aLeaf => k_is)
    (case FLeaf => exact ⟨_, L2.fun_mk (by k_is) (by k_is) (by k_is)⟩)
    (case aNode => k_is)
    (case FNode => exact ⟨_, L2.fun_mk (by k_is) (by k_is) (by k_is)⟩)
    (case aCase => k_is)
    (case FCase => exact ⟨_, L2.fun_mk (by k_is) (by k_is) (by k_is)⟩)
    (case aTops => k_is)
    (case FTops => exact ⟨_, L2.fun_mk (by k_is) (by k_is) (by k_is)⟩)
    (case aChoice => k_is)
    (case FChoice => exact ⟨_, L2.fun_mk (by k_is) (by k_is) (by k_is)⟩)
    (case aJoined => k_is)
    (case FJoined => exact ⟨_, L2.fun_mk (by k_is) (by k_is) (by k_is)⟩)
    (case aCombined => k_is)
    (case FCombined => exact ⟨_, L2.fun_mk (by k_is) (by k_is) (by k_is)⟩)
    (case aTurned => k_is)
    (case FTurned => exact ⟨_, L2.fun_mk (by k_is) (by k_is) (by k_is)⟩)
    (case aNumbers => k_is)
    (case FNumbers => exact ⟨_, L2.fun_mk (by k_is) (by k_is) (by k_is)⟩)
    (case aReduced => k_is)
    (case FReduced => exact ⟨_, L2.fun_mk (by k_is) (by k_is) (by k_is)⟩)
    (case aText => k_is)
    (case FText => exact ⟨_, L2.fun_mk (by k_is) (by k_is) (by k_is)⟩)
    (case aTruthT => k_is)
    (case FTruthT => exact ⟨_, L2.fun_mk (by k_is) (by k_is) (by k_is)⟩)
    (case aTreeOf => k_is)
    (case FTreeOf => exact ⟨_, L2.fun_mk (by k_is) (by k_is) (by k_is)⟩)
    (case aIsFig => k_is)
    (case FIsFig => exact ⟨_, L2.fun_mk (by k_is) (by k_is) (by k_is)⟩)
    (case aFigOf => k_is)
    (case FFigOf => exact ⟨_, L2.fun_mk (by k_is) (by k_is) (by k_is)⟩)
    (case aNumOf => k_is)
    (case FNumOf => exact ⟨_, L2.fun_mk (by k_is) (by k_is) (by k_is)⟩)
    (case aLeafOf => k_is)
    (case FLeafOf => exact ⟨_, L2.fun_mk (by k_is) (by k_is) (by k_is)⟩)
    (case aParsed => k_is)
    (case FParsed => exact ⟨_, L2.fun_mk (by k_is) (by k_is) (by k_is)⟩)
    (case aSound => k_is)
    (case FSound => exact ⟨_, L2.fun_mk (by k_is) (by k_is) (by k_is)⟩)
    (case aBox => k_is)
    (case FBox => exact ⟨_, L2.fun_mk (by k_is) (by k_is) (by k_is)⟩)
    (case aTake => k_is)
    (case FTake => exact ⟨_, L2.fun_mk (by k_is) (by k_is) (by k_is)⟩)
    (case aNums => k_is)
    (case FNums => exact ⟨_, L2.fun_mk (by k_is) (by k_is) (by k_is)⟩)
    (case aLeafL => k_is)
    (case FLeafL => exact ⟨_, L2.fun_mk (by k_is) (by k_is) (by k_is)⟩)
    (case aRaw => k_is)
    (case FRaw => exact ⟨_, L2.fun_mk (by k_is) (by k_is) (by k_is)⟩)
    (case aValue => k_is)
    (case FValue => exact ⟨_, L2.fun_mk (by k_is) (by k_is) (by k_is)⟩)
    (case aTree => k_is)
    (case FTree => exact ⟨_, L2.fun_mk (by k_is) (by k_is) (by k_is)⟩)
    (case aForm => k_is)
    (case FForm => exact ⟨_, L2.fun_mk (by k_is) (by k_is) (by k_is)⟩)
    (case aFound => k_is)
    (case FFound => exact ⟨_, L2.fun_mk (by k_is) (by k_is) (by k_is)⟩)
    (case aTextL => k_is)
    (case FTextL => exact ⟨_, L2.fun_mk (by k_is) (by k_is) (by k_is)⟩)
    (case aIs => k_is)
    (case FIs => exact ⟨_, L2.fun_mk (by k_is) (by k_is) (by k_is)⟩)
    (case aMixed => k_is)
    (case FMixed => exact ⟨_, L2.fun_mk (by k_is) (by k_is) (by k_is)⟩)
    (case aTold8 => k_is)
    (case FTold8 => exact ⟨_, L2.fun_mk (by k_is) (by k_is) (by k_is)⟩)
    (case aFig8 => k_is)
    (case FFig8 => exact ⟨_, L2.fun_mk (by k_is) (by k_is) (by k_is)⟩)
    (case aLeaf8 => k_is)
    (case FLeaf8 => exact ⟨_, L2.fun_mk (by k_is) (by k_is) (by k_is)⟩)
    (case aTok8 => k_is)
    (case FTok8 => exact ⟨_, L2.fun_mk (by k_is) (by k_is) (by k_is)⟩)
    (case aRead8 => k_is)
    (case FRead8 => exact ⟨_, L2.fun_mk (by k_is) (by k_is) (by k_is)⟩)
    (case aKinds8 => k_is)
    (case FKinds8 => exact ⟨_, L2.fun_mk (by k_is) (by k_is) (by k_is)⟩)
    (case aDeep8 => k_is)
    (case FDeep8 => exact ⟨_, L2.fun_mk (by k_is) (by k_is) (by k_is)⟩)
    (case aRight8 => k_is)
    (case FRight8 => exact ⟨_, L2.fun_mk (by k_is) (by k_is) (by k_is)⟩)
    (case aLCases => k_is)
    (case FLCases => exact ⟨_, L2.fun_mk (by k_is) (by k_is) (by k_is)⟩)
    (case aLBuilt => k_is)
    (case FLBuilt => exact ⟨_, L2.fun_mk (by k_is) (by k_is) (by k_is)⟩)
    (case aMore8 => k_is)
    (case FMore8 => exact ⟨_, L2.fun_mk (by k_is) (by k_is) (by k_is)⟩)
    (case aAsB => k_is)
    (case FAsB => exact ⟨_, L2.fun_mk (by k_is) (by k_is) (by k_is)⟩)
    (case aChain8 => k_is)
    (case FChain8 => exact ⟨_, L2.fun_mk (by k_is) (by k_is) (by k_is)⟩)
    (case aSpoil8 => k_is)
    (case FSpoil8 => exact ⟨_, L2.fun_mk (by k_is) (by k_is) (by k_is)⟩)
    (case aRow8 => k_is)
    (case FRow8 => exact ⟨_, L2.fun_mk (by k_is) (by k_is) (by k_is)⟩)
    (case aLaw => k_is)
    (case FLaw => exact ⟨_, L2.fun_mk (by k_is) (by k_is) (by k_is)⟩)
    (case aC => k_is)
    (case tC => k_is)
    (case gC => k_is)
    (case rC => k_is)
    (case pgC => first | k_is | kernel_rfl)
    (case hdC => first | k_is | kernel_rfl)
    (case poC => first | k_is | kernel_rfl)
    (case saC => k_is)
    (case ntC => k_is)
    (case caC => k_is)
    (case cnC => k_is)
    (case ctC => first | k_is | kernel_rfl)
    (case cmC => first | k_is | kernel_rfl)
    (case kwC => first | k_is | kernel_rfl)
    (case kiC => first | k_is | kernel_rfl)
    (case kbC => first | k_is | kernel_rfl)
    (case mkC => first | k_is | kernel_rfl)
    (case kpC => first | k_is | kernel_rfl)
    (case sfC => first | k_is | kernel_rfl)
    (case neC => k_is)
    (case obC => first | k_is | kernel_rfl)
    (case otAddint => exact ⟨_, _, _, (by k_is), (by first | exact .inl rfl | exact .inr ⟨_, rfl⟩), (by k_is), (by k_is), (by first | k_is | kernel_rfl)⟩)
    (case aS => k_is)
    (case tS => k_is)
    (case gS => k_is)
    (case rS => k_is)
    (case vS => k_is)
    (case mNW => k_is)
    (case xNW => exact Cor.exn_mk Cor.bas_value (by k_is) rfl (by kernel_rfl))
    (case fNW => k_is)
    (case jNW => k_is)
    (case tNW => k_is)
    (case FNW => exact ⟨_, L2.fun_mk (by k_is) (by k_is) (by k_is)⟩)
    (case mHO => k_is)
    (case zVE => k_is)
    (case exS => first | k_is | kernel_rfl)
    (case kNN => first | k_is | kernel_rfl)
    (case kNV => first | k_is | kernel_rfl)
    (case kNH => first | k_is | kernel_rfl)
    (case kwNoneType => first | k_is | kernel_rfl)
    (case kwstr => first | k_is | kernel_rfl)
    (case kwtuple => first | k_is | kernel_rfl)
    (case kwlist => first | k_is | kernel_rfl)
    (case iTreeOf => first | k_is | kernel_rfl)
    (case zall => k_is)
    (case zenumerate => k_is)
    (case gDigits => exact ⟨_, by first | k_is | kernel_rfl⟩)
    (case gLfig => exact ⟨_, by first | k_is | kernel_rfl⟩)
    (case gDeepest => exact ⟨_, by first | k_is | kernel_rfl⟩)
    (case bInit => k_is)
    (case iInit => first | k_is | kernel_rfl)
    (case MInit => exact ⟨_, L2.fun_mk (by k_is) (by k_is) (by k_is)⟩)
    (case bEq => k_is)
    (case iEq => first | k_is | kernel_rfl)
    (case MEq => exact ⟨_, L2.fun_mk (by k_is) (by k_is) (by k_is)⟩)
    (case bStr => k_is)
    (case iStr => first | k_is | kernel_rfl)
    (case MStr => exact ⟨_, L2.fun_mk (by k_is) (by k_is) (by k_is)⟩)
    (case bRepr => k_is)
    (case iRepr => first | k_is | kernel_rfl)
    (case MRepr => exact ⟨_, L2.fun_mk (by k_is) (by k_is) (by k_is)⟩)
    (case bCall => k_is)
    (case iCall => first | k_is | kernel_rfl)
    (case MCall => exact ⟨_, L2.fun_mk (by k_is) (by k_is) (by k_is)⟩)
    (case bCases => k_is)
    (case iCases => first | k_is | kernel_rfl)
    (case MCases => exact ⟨_, L2.fun_mk (by k_is) (by k_is) (by k_is)⟩)
    (case bAdd => k_is)
    (case iAdd => first | k_is | kernel_rfl)
    (case MAdd => exact ⟨_, L2.fun_mk (by k_is) (by k_is) (by k_is)⟩)
    (case fiCall => first | k_is | kernel_rfl)
    (case bOf => k_is)
    (case cOf => exact ⟨_, by k_is⟩)
    (case iOf => first | k_is | kernel_rfl)
    (case MOf => exact ⟨_, L2.fun_mk (by k_is) (by k_is) (by k_is)⟩)
    (case bEither => k_is)
    (case cEither => exact ⟨_, by k_is⟩)
    (case iEither => first | k_is | kernel_rfl)
    (case MEither => exact ⟨_, L2.fun_mk (by k_is) (by k_is) (by k_is)⟩)
    (case bRead => k_is)
    (case cRead => exact ⟨_, by k_is⟩)
    (case iRead => first | k_is | kernel_rfl)
    (case MRead => exact ⟨_, L2.fun_mk (by k_is) (by k_is) (by k_is)⟩)
    (case bWords => k_is)
    (case eWords => k_is)
    (case kWords => first | k_is | kernel_rfl)
    (case cWords => exact ⟨_, by k_is⟩)
    (case MWords => exact ⟨_, L2.fun_mk (by k_is) (by k_is) (by k_is)⟩)
    (case bPlain => k_is)
    (case ePlain => k_is)
    (case kPlain => first | k_is | kernel_rfl)
    (case cPlain => exact ⟨_, by k_is⟩)
    (case MPlain => exact ⟨_, L2.fun_mk (by k_is) (by k_is) (by k_is)⟩)
    (case bIsT => k_is)
    (case eIsT => k_is)
    (case kIsT => first | k_is | kernel_rfl)
    (case cIsT => exact ⟨_, by k_is⟩)
    (case MIsT => exact ⟨_, L2.fun_mk (by k_is) (by k_is) (by k_is)⟩)
    (case lFormT => k_is)
    (case dFormT => rfl)
    (case mFormT => k_is)
    (case tFormT => rfl)
    (case hFormT => kernel_rfl)
    (case nFormT => kernel_rfl)
    (case eFormT => exact PySem.W.km_tabs_of Y _ (by simp))
#print axioms PySem.Challenge.cw_corridors_k08_texts_of_worths_holds
