import PyProof.Rows.All
import Wide.All
import OpenK.AllK
import Wide.FinOn
import HandS.ForMost
import HandS.ForExc
import HandS.IsInst
import HandS.Flow
import HandS.HeadHook2
import HandS.HeadEnd
import HandS.Property
import HandS.ClsMeth
import HandS.Lambda
import KE.KNestM
import HandS.CallLocal
import KE.KOpsOwn
import PyProof.InstNe
import KE.KDictKeyed
import HandS.ExcInit
import HandS.TupAny
import HandS.Defaults
import HandS.RaiseMore
import HandS.Zip
import HandS.SortInts
import HandS.DictComp
import PyProof.Rows.Range3
import PyProof.ReprRoads
import HandS.Small
import HandS.HeadHook4
import PyProof.FitsInt
import HandS.Deep
import HandS.TryOnly
import HandS.OwnEq
import HandS.Star
import HandS.SortKw
import KE.DataMinMax
import HandS.Style
import HandS.SetFor
import HandS.Strs
import HandS.FStr
import KE.KCallOwn
import HandS.ExcOwn
import HandS.SetBool
import HandS.Text
import KE.KIntText
import HandS.Conv
import PyProof.ListStr
import PyProof.StrCaseBound
import KE.KExcInit
import PyProof.ExcClass
import HandS.ExcField
import HandS.ExcIs
import HandS.Codes
import PyProof.RulesMatch
import PyProof.RulesMatchSeq
import PyProof.Rows.MatchSeqLen
import HandS.TupSets
import HandS.TupMul
import PyProof.EqKinds
import PyProof.FactsAll.dict_1
import PyProof.NeKinds
import HandS.Comp
import OpenK.KMake
import PyProof.FactsLen
import KE.KRevSl
import PyProof.FactsAll.dict_2
import KE.GoesMore
import HandS.Head3
import HandS.MakeKwOnly
import HandS.Dict
import KE.KDictDisplayH
import KE.KExcIs
import HandS.ExcValue
import HandS.Head0
import HandS.Head1
import HandS.Head2
import PySem.Challenge.RW_deepenough_k00_errors_and_what_they_keep
set_option Elab.async false
set_option linter.all false
set_option maxRecDepth 100000
set_option maxHeartbeats 4000000
namespace Dz
open PySem PySem.Spec PyProof.Rows L2
abbrev Frag := PySem.W.Frag
/-- room for k calls, and no repr under way -/
structure Rm (k : Nat) (A : Around) : Prop where
  room : Room k A
  gd : A.guards = some []
theorem Rm.mono {j k : Nat} {A : Around} (r : Rm k A) (h : j ≤ k) : Rm j A := ⟨r.room.mono h, r.gd⟩
theorem Rm.deeper {k : Nat} {A : Around} (r : Rm (k + 1) A) (env : PySem.Env) : Rm k (A.deeper env) := ⟨r.room.deeper env, r.gd⟩
theorem Rm.in1 {k : Nat} {A : Around} (r : Rm (k + 1) A) : Rm k A.in1 := ⟨r.room.in1, r.gd⟩
theorem Rm.make {k : Nat} {A : Around} (r : Rm (k + 1) A) (C : Addr) (us : List Value) (kw : List (Str × Value)) : Rm k (A.under (.builtin "type.__call__" ⟨.ref C :: us, kw⟩)) :=
  ⟨r.room.make C us kw, by
    have e : (A.under (.builtin "type.__call__" ⟨.ref C :: us, kw⟩)).guards = A.guards := by
      cases q : A.guards <;> simp [Around.under, Code.guards, pushGuards, Code.isGuard, guardIds, q]
    rw [e]
    exact r.gd⟩
/-- how arguments without a star are read -/
abbrev Args1 (X : Cx) (e : Expr) (es : List Expr) : Prop := starEach (e :: es) X.env = (false, eval e X.env) :: starEach es X.env
abbrev NoStar (X : Cx) (es : List Expr) (pos : Pos) : Prop := ((backTo pos (starEach es X.env)).any fun z => z.1) = false
/-- how o.m(..) is read: the method first, the arguments behind it -/
abbrev MethSh (X : Cx) (o : Expr) (m : Str) (apos : Pos) (es : List Expr) (pos : Pos) (pl : Sem Bool) : Prop :=
  eval (.Call (.Attribute o m apos) es [] pos) X.env = (eval o X.env >>= fun ov => standAt apos.atName >>= fun _ => holding [ov] (getMethod ov m pl) >>= fun r =>
    callWith pos r.1 r.2 (backTo pos (starEach es X.env)) (backToKw pos (keywordEach [] X.env)))
/-- a def's promise by positional values -/
def FnG (P : Program) (w : World) (K : Frag) (mg : Str → Option Value) (base : Heap) (CX : CXT) (k n : Nat) (f : Addr) (sp : Sp) : Prop :=
  ∀ (A : Around) (outer : List PySem.Env) (s : Shared) (H : Hp) (us : List Value) (vs : List V) (Q : VK) (E : XK), Rm k A → Env0 P w K mg base A outer s H → Vals vs us → vs.length = n → sp vs H Q E →
    codeAny (model P w) A (.call (.ref f) ⟨us, []⟩) (CR CX outer P w H s Q E) s
section
variable {P : Program} {w : World} {K : Frag} {mg : Str → Option Value} {base : Heap} {CX : CXT} {j k n : Nat} {f : Addr} {sp : Sp}
theorem FnG.mono (F : FnG P w K mg base CX j n f sp) (h : j ≤ k) : FnG P w K mg base CX k n f sp := fun A outer s H us vs Q E hr => F A outer s H us vs Q E (hr.mono h)
/-- what a body leaves is what its call gives -/
theorem left {N : List Str} {qual : Str} {scope : Scope} {cdv : Value} {A : Around} {outer : List PySem.Env} {s s2 : Shared} {H : Hp} {Q : VK} {E : XK} {fl : Flow} (h : SP (cxOf CX P w K mg base N qual scope f cdv A outer s H E) [] { nx := fun _ H' => Q .non H', rt := Q } fl s2) :
    ∃ u, (fl = .ret u ∨ (fl = .next ∧ u = .none)) ∧ CE outer P w H s Q u s2 := by
  match fl, h with
  | .ret u, ⟨v, _, H2, J, rv, q⟩ => exact ⟨u, .inl rfl, v, H2, J.os, J.bare, J.base, J.hok, rv, q⟩
  | .next, ⟨_, H2, J, q⟩ => exact ⟨.none, .inr ⟨rfl, rfl⟩, .non, H2, J.os, J.bare, J.base, J.hok, rfl, q⟩
  | .brk, ⟨_, _, _, q⟩ => exact q.elim
  | .cont, ⟨_, _, _, q⟩ => exact q.elim
/-- the code of the def that stands at an address -/
def codeAt (K : Frag) (a : Addr) : Option Value := (K.lookup a).bind fun o => match o with
  | ⟨_, _, .func fd, _⟩ => some fd.code
  | _ => none
theorem fng_ofC {x qual : Str} {params : Arguments} {body : List Stmt} {scope : Scope} {dvs : List V} {kws : List (Str × V)} {fd : FuncData} {N ps : List Str} (F : FunD K x qual params body scope dvs kws f fd) (B : Binds K fd ps []) (S : FnScope N ps scope) (hn : n = ps.length)
    (hb : ∀ (cdv : Value) (A : Around) (outer : List PySem.Env) (s : Shared) (H : Hp) (vs : List V) (Q : VK) (E : XK), codeAt K f = some cdv → Rm k (A.deeper (envOfC qual scope s.heap.objs.size f cdv)) → vs.length = n → sp vs H Q E →
      ∃ t, PSs (cxOf CX P w K mg base N qual scope f cdv A outer s H E) body t ∧ t { nx := fun _ H' => Q .non H', rt := Q } (start N vs) H) : FnG P w K mg base CX (k + 1) n f sp := fun A outer s H us vs Q E hr e0 r hl hsp => by
  have up : ∀ (b : Addr) (o : Obj), base.get? b = some o → s.heap.get? b = some o := fun b o e => (e0.bs b o e).1
  have inK := e0.mod.kin.keeps up
  have noL := e0.mod.nolimit.keeps up
  have args := B s us inK (by rw [List.append_nil, ← r.length, hl, hn])
  obtain ⟨_, _, _, _, _, _, _, cdv, _, _, rfl, at_, code, _⟩ := F.ex
  obtain ⟨t, ht, hq⟩ := hb cdv A outer s H vs Q E (by unfold codeAt; rw [at_]; rfl) (hr.deeper _) hl hsp
  have place : ∀ y ∈ ps.zip us, scope.names.lookup y.1 = some .local ∨ (scope.names.lookup y.1 = some .cell ∧ ((cellsFrom (s.heap.objs.size + 1) scope.names []).lookup y.1).isSome = true) := fun y hy =>
    (S.par y.1 (List.of_mem_zip (show (y.1, y.2) ∈ ps.zip us from hy)).1).imp id fun q => ⟨q, PySem.W.cellsFrom_some _ _ _ (.inl q)⟩
  refine codeAny_call_function hr.room.depth (inK _ _ at_) rfl S.co S.gen rfl (PySem.W.codeRec_of inK code) ((List.append_nil us ▸ args) _ _ _ _ (wpAny_newFunctionEnv_cells S.kind place fun env he s2 z => ?_))
  subst he
  have J := inv_start (CX := CX) (E := E) (cd := cdv) S hr.room.hd e0 (hl.trans hn) r z
  refine ⟨noL.keeps z.toInCall.keep, codeAny_func (wpAny_mono (ht.run [] s2 _ H _ J hq) (fun fl s3 hs => ?_) fun _ _ hs => hs)⟩
  obtain ⟨u, e | ⟨e, eu⟩, c⟩ := left hs
  · subst e; exact c
  · subst e; subst eu; exact c
theorem fng_of {x qual : Str} {params : Arguments} {body : List Stmt} {scope : Scope} {dvs : List V} {kws : List (Str × V)} {fd : FuncData} {N ps : List Str} (F : FunD K x qual params body scope dvs kws f fd) (B : Binds K fd ps []) (S : FnScope N ps scope) (hn : n = ps.length)
    (hb : ∀ (cdv : Value) (A : Around) (outer : List PySem.Env) (s : Shared) (H : Hp) (vs : List V) (Q : VK) (E : XK), Rm k (A.deeper (envOfC qual scope s.heap.objs.size f cdv)) → vs.length = n → sp vs H Q E →
      ∃ t, PSs (cxOf CX P w K mg base N qual scope f cdv A outer s H E) body t ∧ t { nx := fun _ H' => Q .non H', rt := Q } (start N vs) H) : FnG P w K mg base CX (k + 1) n f sp :=
  fng_ofC F B S hn fun cdv A outer s H vs Q E _ => hb cdv A outer s H vs Q E
end
section
variable {X : Cx} {CX : CXT} {k n : Nat} {f C : Addr} {sp : Sp} {E : XK} {pins : List (Addr × Obj)} {σ : L2.St} {H : Hp} {s : Shared} {Q : VK} {us : List Value} {vs : List V}
/-- what a call has left, seen from the caller -/
theorem seen {E' : Value → Shared → Prop} {r : Result} {s2 : Shared} (I : Inv X pins σ H s) (hx : ∀ e s', CX X.stack H s E e s' → E' e s') (h : CR CX X.stack X.prog X.w H s Q E r s2) :
    (∃ u, r = .ok (.ret u) ∧ EP X pins σ Q u s2) ∨ ∃ e, r = .error e ∧ E' e s2 := by
  match r, h with
  | .error e, h => exact .inr ⟨e, rfl, hx e s2 h⟩
  | .ok (.ret u), h => exact .inl ⟨u, rfl, I.after h⟩
  | .ok .next, h => exact h.elim
  | .ok .brk, h => exact h.elim
  | .ok .cont, h => exact h.elim
/-- such a call, from a state of X's, at A -/
theorem run_g {A : Around} {E' : Value → Shared → Prop} (F : FnG X.prog X.w X.K X.mg X.base CX k n f sp) (hr : Rm k A) (e0 : Env0 X.prog X.w X.K X.mg X.base A X.stack s H) (hx : ∀ e s', CX X.stack H s E e s' → E' e s') (I : Inv X pins σ H s) (r : Vals vs us) (hl : vs.length = n) (h : sp vs H Q E) :
    wpAny (model X.prog X.w) A (call (.ref f) us) (EP X pins σ Q) E' s := wpAny_call (codeAny_mono (F A X.stack s H us vs Q E hr e0 r hl h) fun o s2 c => by
  obtain ⟨u, rfl, q⟩ | ⟨e, rfl, q⟩ := seen I hx c <;> exact q)
theorem run_fng (F : FnG X.prog X.w X.K X.mg X.base CX k n f sp) (hr : Rm k X.A) (hx : Passes CX X E) (I : Inv X pins σ H s) (r : Vals vs us) (hl : vs.length = n) (h : sp vs H Q E) : wpAny (model X.prog X.w) X.A (call (.ref f) us) (EP X pins σ Q) X.xe s :=
  run_g F hr I.env0 (fun e s' z => hx pins σ H s e s' I z) I r hl h
end
/-- a reading, by what the expression does at each state -/
theorem pe_by {X : Cx} {e : Expr} {t : TE} (h : ∀ {pins : List (Addr × Obj)} {s : Shared} {σ : L2.St} {H : Hp} {Q : VK}, Inv X pins σ H s → t σ H Q → wpAny (model X.prog X.w) X.A (eval e X.env) (EP X pins σ Q) X.xe s) : PE X e t := ⟨fun _ _ _ _ _ => h⟩
section
variable {X : Cx} {CX : CXT} {k n : Nat} {f C : Addr} {sp : Sp} {E : XK} {x m : Str} {p pos apos : Pos} {e o : Expr} {es : List Expr} {ta : TE} {t : TA}
def tCallG (n : Nat) (sp : Sp) (E : XK) (t : TA) : TE := fun σ H Q => t σ H fun vs H1 => vs.length = n ∧ sp vs H1 Q E
theorem pg_call (F : FnG X.prog X.w X.K X.mg X.base CX k n f sp) (hr : Rm k X.A) (hg : Gl X x) (hm : X.mg x = some (.ref f)) (hk : PySem.W.keepIn X.K (.ref f) = true) (hx : Passes CX X E)
    (ha : PA X (e :: es) t) (hdb : (x == ("__debug__" : Str)) = false := by decide) (he : Args1 X e es := by rfl) (hpl : NoStar X es pos := by rfl) :
    PE X (.Call (.Name x p) (e :: es) [] pos) (tCallG n sp E t) := by
  exact pe_by fun I h => wpAny_Call_Name_kw (ld_glob I hg hm (PySem.W.callWith_K (h₀ := X.base) I.ok.mod.kin hk (thn (ha.run _ _ _ _ _ _ I h) fun us s1 ⟨vs, H1, J, r, hl, q⟩ => ⟨J.kIn, run_fng F hr hx J r hl q⟩) he hpl) hdb)
end
/-- lambdas stand in the law's own defs -/
def lawName (x : Str) : Bool := (x.cps.toList.take 4 == ("_law" : Str).cps.toList) || x == "law"
/-- a def's code object and its table, by the written objects; the name that a lambda of the def bears -/
def lamC (K : Frag) (q : Addr × Obj) : Option (Addr × Addr × Str) := match q.2 with
  | ⟨_, _, .fields vs, _⟩ => (match (vs[11]? : Option Value), (vs[1]? : Option Value) with
    | some (.ref P), some (.str x _) => if lawName x && (PySem.W.codeHdIn K q.1 P && (K.lookup P).isNone) then some (q.1, P, x ++ ".<locals>." ++ "<lambda>") else none
    | _, _ => none)
  | _ => none
def lamL (K : Frag) : List (Addr × Addr × Str) := K.filterMap (lamC K)
def tabL (K : Frag) : List (Addr × Str) := (lamL K).map (·.2)
def csL (K : Frag) : List (Addr × Addr) := (lamL K).map fun p => (p.1, p.2.1)
theorem lamL_ok {K : Frag} {p : Addr × Addr × Str} (h : p ∈ lamL K) : PySem.W.codeHdIn K p.1 p.2.1 = true ∧ K.lookup p.2.1 = none := by
  obtain ⟨⟨c, o⟩, _, e⟩ := List.mem_filterMap.mp h
  unfold lamC at e
  split at e
  · split at e
    · split at e
      · rename_i z
        cases e
        simp only [Bool.and_eq_true] at z
        exact ⟨z.2.1, Option.isNone_iff_eq_none.mp z.2.2⟩
      · cases e
    · cases e
  · cases e
theorem csL_ok {K : Frag} {p : Addr × Addr} (h : p ∈ csL K) : PySem.W.codeHdIn K p.1 p.2 = true ∧ K.lookup p.2 = none := by
  obtain ⟨q, hq, rfl⟩ := List.mem_map.mp h
  exact lamL_ok hq
theorem tabL_cs {K : Frag} {p : Addr × Str} (h : p ∈ tabL K) : ∃ q ∈ csL K, q.2 = p.1 := by
  obtain ⟨q, hq, rfl⟩ := List.mem_map.mp h
  exact ⟨_, List.mem_map.mpr ⟨q, hq, rfl⟩, rfl⟩
/-- what the makers of lambdas ask of the heap behind all -/
def Bs (K : Frag) (mg : Str → Option Value) (base : Heap) : Prop := ∀ p ∈ csL K, LamX.TabB base mg p.1 p.2
/-- an empty table -/
abbrev tab0 : Obj := { cls := .none, data := .fields #[] }
/-- the tables are empty -/
def Empt (K : Frag) (h : Heap) : Prop := ∀ p ∈ csL K, h.get? p.2 = some tab0
section
variable {P : Program} {w : World} {K : Frag} {mg mb : Str → Option Value} {CX : CXT} {k : Nat} {fa a : Addr} {sp : Sp} {s₁ : Shared} {vs : List Value} {ns : List Int}
/-- what the caller of a law wants -/
abbrev Good (s₁ : Shared) (r : Result) (s2 : Shared) : Prop := r = .ok (.ret (.bool true)) ∧ OldK s₁.heap s2.heap ∧ s2.os = s₁.os ∧ AllBare s2.gens
/-- what the abstract heap tells at the law's begin -/
structure Fit (K : Frag) (a : Addr) (ns : List Int) (H : Hp) : Prop where
  scr : SqL K H a (ns.map V.int)
  here : H a = none ∨ ∃ o xs, H a = some (.frz o (.lst xs))
  tabs : ∀ p ∈ csL K, H p.2 = some (.tbl #[])
/-- the abstract heap tells of the script at most, as a frozen list, and of the tables -/
structure Bare1 (P : Program) (w : World) (K : Frag) (a : Addr) (ns : List Int) (H : Hp) (h : Heap) : Prop where
  fit : Fit K a ns H
  ok : HOk P w H h
  off : ∀ b, H b ≠ none → b = a ∨ ∃ p ∈ csL K, p.2 = b
  notK : H a ≠ none → K.lookup a = none
/-- from such an abstract heap -/
theorem law_core (KX : K.In s₁.heap) (em : Empt K s₁.heap) (hbm : ∃ (bm : Addr) (ob : Obj), mg "__builtins__" = some (.ref bm) ∧ bm ≠ builtinsNs ∧ s₁.heap.get? bm = some ob ∧ ob.cls = .type "module" ∧ ob.dict = some builtinsNs ∧ ob.data = .plain)
    (hns : s₁.heap.Ns mainGlobals mg) (hb : s₁.heap.Ns builtinsNs mb) (hbb : ∀ x : Str, x ≠ "__name__" → mb x = bootBuiltins x) (hlim : s₁.heap.NoLimit) (hg : s₁.gens = #[])
    (ha : s₁.heap.get? a = some { cls := .type "list", data := .seq vs.toArray }) (hr : Rm k callerA) (F : ∀ base : Heap, K.In base → base.Ns mainGlobals mg → Bs K mg base → FnG P w K mg base CX k 1 fa sp) {H : Hp} (T : Bare1 P w K a ns H s₁.heap)
    (hsp : sp [.ref a] H (fun v _ => v = .bl true) fun _ _ _ => False) (hCX : ∀ e s', CX [] H s₁ (fun _ _ _ => False) e s' → False) : codeAny (model P w) callerA (.call (.ref fa) ⟨[.ref a], []⟩) (Good s₁) s₁ := by
  -- what neither the script nor a table is stands in the heap without what is tracked
  have stay : ∀ {b : Addr} {o : Obj}, s₁.heap.get? b = some o → (b = a → H a = none) → o ≠ tab0 → (hidT s₁.heap H).get? b = some o := fun {b o} e z n => hidT_get e (by
    apply Classical.byContradiction
    intro q
    rcases T.off b q with y | ⟨p, hp, y⟩
    · exact q (y ▸ z y)
    · rw [← y, em p hp] at e
      exact n (Option.some.inj e).symm)
  have dict : ∀ {b : Addr} {m : Str → Option Value}, s₁.heap.Ns b m → (hidT s₁.heap H).Ns b m := fun ⟨o, es, ep, e, d, r⟩ => ⟨o, es, ep, stay e (fun z => (by
    rw [z, ha] at e
    injection e with e
    rw [← e] at d
    cases d)) (fun z => by rw [z] at d; cases d), d, r⟩
  have inK : K.In (hidT s₁.heap H) := fun b o e => hidT_get (KX b o e) (by
    apply Classical.byContradiction
    intro q
    rcases T.off b q with y | ⟨p, hp, y⟩
    · rw [y] at q e
      rw [T.notK q] at e
      cases e
    · rw [← y, (csL_ok hp).2] at e
      cases e)
  have bs : Bs K mg (hidT s₁.heap H) := fun p hp => by
    refine ⟨PySem.W.codeHd_of_K inK (csL_ok hp).1, ?_, fun z => ?_⟩
    · obtain ⟨bm, ob, e1, e2, e3, e4, e5, e6⟩ := hbm
      refine ⟨bm, ob, e1, e2, fun z => ?_, fun z => ?_, stay e3 (fun z => ?_) (fun z => ?_), e4, e5, e6⟩
      · obtain ⟨o, es, ep, e, d, _⟩ := hns
        rw [← z, e3] at e
        rw [← Option.some.inj e, e6] at d
        cases d
      · have := em p hp
        rw [← z, e3] at this
        rw [Option.some.inj this] at e6
        cases e6
      · rw [z, ha] at e3
        rw [← Option.some.inj e3] at e6
        cases e6
      · rw [z] at e6
        cases e6
    · obtain ⟨o, es, ep, e, d, _⟩ := hns
      rw [z, em p hp] at e
      rw [← Option.some.inj e] at d
      cases d
  have env : Env0 P w K mg (hidT s₁.heap H) callerA [] s₁ H :=
    ⟨rfl, ⟨inK, dict hns, ⟨mb, dict hb, hbb⟩, hlim.imp fun _ z => ⟨dict z.1, z.2⟩⟩, fun _ _ e => of_hidT e, Nat.le_of_eq (hidT_size _ _), trivial, (fun _ z => by cases z), T.ok, .of_eq hg⟩
  refine codeAny_mono (F _ inK (dict hns) bs callerA [] s₁ H [.ref a] [.ref a] _ _ hr env (.cons rfl .nil) rfl hsp) fun r s2 h => ?_
  match r, h with
  | .error e, h => exact (hCX e s2 h).elim
  | .ok .next, h => exact h.elim
  | .ok .brk, h => exact h.elim
  | .ok .cont, h => exact h.elim
  | .ok (.ret u), ⟨v, H2, os, bare, un, ok2, ru, q⟩ =>
    have q : v = .bl true := q
    rw [q] at ru
    cases ru
    -- a table has grown, all else is as it was
    have keep : ∀ b o, (∀ p ∈ csL K, p.2 ≠ b) → s₁.heap.get? b = some o → s2.heap.get? b = some o := fun b o z e => by
      by_cases hH : H b = none
      · exact un.keep b o e hH (List.not_mem_nil) (List.not_mem_nil)
      · rcases T.off b hH with y | ⟨p, hp, y⟩
        · rcases T.fit.here with n | ⟨ob, xs, n⟩
          · exact absurd (y ▸ n) hH
          · rw [← y] at n
            have before := (T.ok b _ n).1
            have behind := (ok2 b _ (un.frzs b ob _ n)).1
            rw [before] at e
            rw [← Option.some.inj e]
            exact behind
        · exact absurd y (z p hp)
    have more : ∀ p ∈ csL K, ∃ ps : Array Value, s2.heap.get? p.2 = some { cls := .none, data := .fields ps } := fun p hp =>
      let ⟨ps, z⟩ := un.tbls p.2 #[] (T.fit.tabs p hp)
      ⟨_, ok2 p.2 _ z⟩
    refine ⟨rfl, ⟨fun b o e => ?_, fun b o e => ?_⟩, os, bare⟩
    · by_cases z : ∃ p ∈ csL K, p.2 = b
      · obtain ⟨p, hp, y⟩ := z
        obtain ⟨ps, g⟩ := more p hp
        have e0 := em p hp
        rw [← y] at e ⊢
        have eo : o = tab0 := Option.some.inj (e.symm.trans e0)
        exact .inr (.inl ⟨((PySem.W.codeHd_of_K KX (csL_ok hp).1).tab e0).isCodeTable, by rw [eo], #[], ps, by rw [eo], by rw [Array.empty_append, eo]; exact g⟩)
      · exact .inl (keep b o (fun p hp y => z ⟨p, hp, y⟩) e)
    · by_cases z : ∃ p ∈ csL K, p.2 = b
      · obtain ⟨p, hp, y⟩ := z
        obtain ⟨ps, g⟩ := more p hp
        exact ⟨_, y ▸ g⟩
      · exact ⟨o, keep b o (fun p hp y => z ⟨p, hp, y⟩) e⟩
theorem law_callG (KX : K.In s₁.heap) (em : Empt K s₁.heap) (hbm : ∃ (bm : Addr) (ob : Obj), mg "__builtins__" = some (.ref bm) ∧ bm ≠ builtinsNs ∧ s₁.heap.get? bm = some ob ∧ ob.cls = .type "module" ∧ ob.dict = some builtinsNs ∧ ob.data = .plain)
    (hns : s₁.heap.Ns mainGlobals mg) (hb : s₁.heap.Ns builtinsNs mb) (hbb : ∀ x : Str, x ≠ "__name__" → mb x = bootBuiltins x) (hlim : s₁.heap.NoLimit) (hg : s₁.gens = #[])
    (ha : s₁.heap.get? a = some { cls := .type "list", data := .seq vs.toArray }) (hi : IntsAre vs ns) (hl : ns.length ≤ sizeLine) (hr : Rm k callerA) (F : ∀ base : Heap, K.In base → base.Ns mainGlobals mg → Bs K mg base → FnG P w K mg base CX k 1 fa sp)
    (hsp : ∀ H : Hp, Fit K a ns H → sp [.ref a] H (fun v _ => v = .bl true) fun _ _ _ => False) (hCX : ∀ H e s', CX [] H s₁ (fun _ _ _ => False) e s' → False) :
    codeAny (model P w) callerA (.call (.ref fa) ⟨[.ref a], []⟩) (Good s₁) s₁ := by
  have scr := vals_ints hi
  have go : ∀ {H : Hp}, Bare1 P w K a ns H s₁.heap → codeAny (model P w) callerA (.call (.ref fa) ⟨[.ref a], []⟩) (Good s₁) s₁ := fun T => law_core KX em hbm hns hb hbb hlim hg ha hr F T (hsp _ T.fit) (hCX _)
  have aT : ∀ p ∈ csL K, p.2 ≠ a := fun p hp z => by
    have := em p hp
    rw [z, ha] at this
    cases this
  -- the tables alone
  let Ht : Hp := fun b => if b ∈ (csL K).map (·.2) then some (.tbl #[]) else none
  have atT : ∀ p ∈ csL K, Ht p.2 = some (.tbl #[]) := fun p hp => if_pos (List.mem_map.mpr ⟨p, hp, rfl⟩)
  have inT : ∀ b, Ht b ≠ none → ∃ p ∈ csL K, p.2 = b := fun b z => Classical.byContradiction fun n => z (if_neg fun y => n (List.mem_map.mp y))
  have noA : Ht a = none := if_neg fun z => by
    obtain ⟨p, hp, y⟩ := List.mem_map.mp z
    exact aT p hp y
  have okT : ∀ b u, Ht b = some u → ObjOk P w Ht s₁.heap b u := fun b u z => by
    obtain ⟨p, hp, y⟩ := inT b (by rw [z]; simp)
    have e := atT p hp
    rw [y, z] at e
    rw [Option.some.inj e, ← y]
    exact em p hp
  cases hk : K.lookup a with
  | some o =>
    -- the script is the text's own: it is not tracked
    have eo : o = { cls := .type "list", data := .seq vs.toArray } := Option.some.inj ((KX a o hk).symm.trans ha)
    rw [eo] at hk
    exact go (H := Ht) ⟨⟨.inr ⟨_, vs.toArray, _, hk, rfl, rfl, rfl, (by rw [List.size_toArray, hi.length]; exact hl), (by simpa using scr)⟩, .inl noA, atT⟩, okT, fun b z => .inr (inT b z), fun z => absurd noA z⟩
  | none =>
    let o₁ : Obj := { cls := .type "list", data := .seq vs.toArray }
    let H₁ : Hp := fun b => if b = a then some (.frz o₁ (.lst (ns.map V.int))) else Ht b
    have at_ : H₁ a = some (.frz o₁ (.lst (ns.map V.int))) := if_pos rfl
    have off : ∀ b, b ≠ a → H₁ b = Ht b := fun b z => if_neg z
    refine go (H := H₁) ⟨⟨.inl (.inr ⟨o₁, at_⟩), .inr ⟨_, _, at_⟩, fun p hp => (off _ (aT p hp)).trans (atT p hp)⟩, fun b u z => ?_, fun b z => ?_, fun _ => hk⟩
    · by_cases hba : b = a
      · rw [hba, at_] at z
        rw [hba, ← Option.some.inj z]
        exact ⟨ha, (by rw [List.length_map]; exact hl), vs, _, scr, ha⟩
      · rw [off b hba] at z
        obtain ⟨p, hp, y⟩ := inT b (by rw [z]; simp)
        have e := atT p hp
        rw [y, z] at e
        rw [Option.some.inj e, ← y]
        exact em p hp
    · by_cases hba : b = a
      · exact .inl hba
      · exact .inr (inT b (by rw [← off b hba]; exact z))
end
/-- what the head's facts give for a law's def at fa -/
abbrev LawG (l : PySem.W.OpenLaw) (w : World) (CX : CXT) (n k : Nat) (fa : Addr) (h : Heap) (mg : Str → Option Value) : Prop :=
  ∃ (K : Frag) (sp : Sp), (K.In h ∧ Empt K h) ∧ (∀ (H : Hp) (a : Addr) (ns : List Int), ns.length ≤ n → Fit K a ns H → sp [.ref a] H (fun v _ => v = .bl true) fun _ _ _ => False) ∧
    ∀ base : Heap, K.In base → base.Ns mainGlobals mg → Bs K mg base → FnG l.prog w K mg base CX k 1 fa sp
/-- the law's end -/
theorem walk_ofG {l : PySem.W.OpenLaw} {n k : Nat} {q : Program} {loose : List Str} {XP : (Str → Option Value) → Heap → Prop} {YP : World → Heap → Prop} {d : DefRec} {CX : World → CXT} (hn : l.most = some n) (hn2 : n ≤ sizeLine) (hdf : d.params.defaults = [])
    (hr : Rm k callerA) (F : ∀ (w : World) (mg : Str → Option Value) (fa : Addr) (h : Heap), YP w h → h.Ns mainGlobals mg → mg d.name = some (.ref fa) → LawG l w (CX w) n k fa h mg) (hCX : ∀ (w : World) (H : Hp) (s : Shared) (e : Value) (s' : Shared), CX w [] H s (fun _ _ _ => False) e s' → False) :
    PySem.W.WalkO q loose XP YP l.row.toRowW d [] fun f vs => PySem.call f vs :=
  Att.attach_call hn hdf fun w _ _ mg _ fa _ _ _ _ _ _ ns G Y _ _ _ hmg hobj hints hlen hg =>
    let ⟨_, _, KX, hsp, hF⟩ := F w mg fa _ Y G.T.g hmg
    law_callG KX.1 KX.2 G.T.bmain G.T.g G.T.b G.T.builtins G.T.nolimit hg hobj hints (Nat.le_trans hlen hn2) hr hF (fun H hS => hsp H _ ns hlen hS) fun H e s2 => hCX w H _ e s2
end Dz
namespace Dz
open PySem PySem.Spec PyProof.Rows L2
/-- the written objects, and the world by whose hashes texts are found -/
structure KW where
  fr : PySem.W.Frag
  w : World
instance : Coe KW PySem.W.Frag := ⟨KW.fr⟩
abbrev _root_.L2.Cx.kw (X : Cx) : KW := ⟨X.K, X.w⟩
inductive D where
  | non | bl (b : Bool) | int (i : Int) | str (x : Str) | ty (n : String)
  | tup (xs : List D) | lst (xs : List D) | scr (ns : List Int) | dct (kvs : List (Key × D))
  | ins (c : Str) (fs : List (Str × D)) | cls (c : Str) | dcN (kvs : List (D × D))
  | exn (c : Str) (fs : List (Str × D))
  deriving Inhabited
inductive Vl where
  | d (x : D) | c (n : Nat)
  deriving Inhabited
/-- a mutable cell's content -/
inductive Ob where
  | lst (xs : List D)
  | ins (c : Str) (fs : List (Str × D))
  | dead
  deriving Inhabited
mutual
/-- a datum as a key, up to == -/
def nkOf : D → Option NestedKey
  | .non => some .none
  | .bl b => some (.num (if b then 1 else 0))
  | .int i => some (.num i)
  | .str x => some (.text x)
  | .tup xs => (nksOf xs).map .tup
  | _ => none
def nksOf : List D → Option (List NestedKey)
  | [] => some []
  | x :: xs => match nkOf x, nksOf xs with
    | some k, some ks => some (k :: ks)
    | _, _ => none
end
/-- an entry of a dict whose keys are tuples: the key, where its tuple stands, the value -/
abbrev Ent := NestedKey × Addr × V
/-- such a dict, by its one object -/
def dNo (w : World) (a : Addr) (es : List Ent) : HO := .ext fun h => es.length ≤ sizeLine ∧ (a == sysModules) = false ∧ (es.map (·.1)).Nodup ∧ ∃ xs : List (NestedKey × Addr × Value),
  Paired (fun (p : Ent) (q : NestedKey × Addr × Value) => p.1 = q.1 ∧ p.2.1 = q.2.1 ∧ RelV p.2.2 q.2.2) es xs ∧
  ∃ o ents ep, h.get? a = some o ∧ o.ExactDict ∧ o.data = .dict ents ep ∧ ents.toList = xs.map fun x => (⟨x.1.hash w, .ref x.2.1, x.2.2⟩ : DictEntry)
/-- an error of the class C at a, its own dict at d -/
def IsExn (h : Heap) (a C : Addr) (d : Option Addr) : Prop := ∃ (o : Obj) (vs : Array Value), h.get? a = some o ∧ o.cls = .ref C ∧ o.dict = d ∧ o.data = .fields vs
mutual
inductive Rep (K : KW) (F : Hp) : D → V → Prop
  | non : Rep K F .non .non
  | bl (b : Bool) : Rep K F (.bl b) (.bl b)
  | int (i : Int) : Rep K F (.int i) (.int i)
  | str (x : Str) : Rep K F (.str x) (.str x)
  | ty (n : String) : Rep K F (.ty n) (.ty n)
  | tup {a : Addr} {vs : List V} {ds : List D} : SqT K F a vs → Reps K F ds vs → Rep K F (.tup ds) (.ref a)
  | lst {a : Addr} {vs : List V} {ds : List D} : F a = some (.lst vs) → Reps K F ds vs → Rep K F (.lst ds) (.ref a)
  | scr {a : Addr} {ns : List Int} : SqL K F a (ns.map V.int) → Rep K F (.scr ns) (.ref a)
  | dct {a : Addr} {kvs : List (Key × D)} {vs : List (Key × V)} : Rd F a (.dK vs) → RepK K F kvs vs → Rep K F (.dct kvs) (.ref a)
  | ins {a dx : Addr} {c : Str} {fs : List (Str × D)} {vs : List (Str × V)} : F a = some (.ins (He.ga K c) dx vs) → RepF K F fs vs → Rep K F (.ins c fs) (.ref a)
  | cls (c : Str) : Rep K F (.cls c) (.ref (He.ga K c))
  | dcN {a : Addr} {kvs : List (D × D)} {es : List Ent} : F a = some (dNo K.w a es) → RepN K F kvs es → Rep K F (.dcN kvs) (.ref a)
  | exn {a : Addr} {c : Str} {φ : Heap → Prop} : F a = some (.ext φ) → (∀ h, φ h → IsExn h a (He.ga K c) none) → Rep K F (.exn c []) (.ref a)
  | exk {a d : Addr} {c f : Str} {x : D} {v : V} {φ : Heap → Prop} : F a = some (.ext φ) → (∀ h, φ h → IsExn h a (He.ga K c) (some d)) → F d = some (exd d [(f, v)]) → Rep K F x v → Rep K F (.exn c [(f, x)]) (.ref a)
inductive Reps (K : KW) (F : Hp) : List D → List V → Prop
  | nil : Reps K F [] []
  | cons {d : D} {v : V} {ds : List D} {vs : List V} : Rep K F d v → Reps K F ds vs → Reps K F (d :: ds) (v :: vs)
inductive RepK (K : KW) (F : Hp) : List (Key × D) → List (Key × V) → Prop
  | nil : RepK K F [] []
  | cons {k : Key} {d : D} {v : V} {ds : List (Key × D)} {vs : List (Key × V)} : Rep K F d v → RepK K F ds vs → RepK K F ((k, d) :: ds) ((k, v) :: vs)
inductive RepF (K : KW) (F : Hp) : List (Str × D) → List (Str × V) → Prop
  | nil : RepF K F [] []
  | cons {k : Str} {d : D} {v : V} {ds : List (Str × D)} {vs : List (Str × V)} : Rep K F d v → RepF K F ds vs → RepF K F ((k, d) :: ds) ((k, v) :: vs)
inductive RepN (K : KW) (F : Hp) : List (D × D) → List Ent → Prop
  | nil : RepN K F [] []
  | cons {k d : D} {nk : NestedKey} {ka : Addr} {v : V} {ds : List (D × D)} {vs : List Ent} : nkOf k = some nk → nk.depth ≤ 8 → Rep K F k (.ref ka) → Rep K F d v → RepN K F ds vs → RepN K F ((k, d) :: ds) ((nk, ka, v) :: vs)
end
/-- what stands at a, also where it is held fast -/
theorem rdS {F F' : Hp} {a : Addr} {u : HO} (e : Same F F') (h : Rd F a u) : Rd F' a u := h.imp (e _ _) fun ⟨o, q⟩ => ⟨o, e _ _ q⟩
theorem sqT_mono {K : KW} {F F' : Hp} {a : Addr} {xs : List V} (e : Same F F') (h : SqT K F a xs) : SqT K F' a xs := by
  rcases h with (h | ⟨o, h⟩) | h
  · exact .inl (.inl (e _ _ h))
  · exact .inl (.inr ⟨o, e _ _ h⟩)
  · exact .inr h
section
variable {K : KW} {F F' : Hp} (e : Same F F')
include e
mutual
theorem Rep.mono : ∀ {d : D} {v : V}, Rep K F d v → Rep K F' d v
  | _, _, .non => .non
  | _, _, .bl b => .bl b
  | _, _, .int b => .int b
  | _, _, .str b => .str b
  | _, _, .ty b => .ty b
  | _, _, .tup h r => .tup (sqT_mono e h) (Reps.mono r)
  | _, _, .lst h r => .lst (e _ _ h) (Reps.mono r)
  | _, _, .scr h => .scr (e.seq h)
  | _, _, .dct h r => .dct (rdS e h) (RepK.mono r)
  | _, _, .ins h r => .ins (e _ _ h) (RepF.mono r)
  | _, _, .cls c => .cls c
  | _, _, .dcN h r => .dcN (e _ _ h) (RepN.mono r)
  | _, _, .exn h z => .exn (e _ _ h) z
  | _, _, .exk h z g r => .exk (e _ _ h) z (e _ _ g) (Rep.mono r)
theorem Reps.mono : ∀ {ds : List D} {vs : List V}, Reps K F ds vs → Reps K F' ds vs
  | _, _, .nil => .nil
  | _, _, .cons h r => .cons (Rep.mono h) (Reps.mono r)
theorem RepK.mono : ∀ {ds : List (Key × D)} {vs : List (Key × V)}, RepK K F ds vs → RepK K F' ds vs
  | _, _, .nil => .nil
  | _, _, .cons h r => .cons (Rep.mono h) (RepK.mono r)
theorem RepF.mono : ∀ {ds : List (Str × D)} {vs : List (Str × V)}, RepF K F ds vs → RepF K F' ds vs
  | _, _, .nil => .nil
  | _, _, .cons h r => .cons (Rep.mono h) (RepF.mono r)
theorem RepN.mono : ∀ {ds : List (D × D)} {vs : List Ent}, RepN K F ds vs → RepN K F' ds vs
  | _, _, .nil => .nil
  | _, _, .cons h l a b r => .cons h l (Rep.mono a) (Rep.mono b) (RepN.mono r)
end
end
section
variable {K : KW} {F : Hp}
theorem Reps.length : ∀ {ds : List D} {vs : List V}, Reps K F ds vs → ds.length = vs.length
  | _, _, .nil => rfl
  | _, _, .cons _ r => congrArg (· + 1) r.length
theorem Reps.get : ∀ {ds : List D} {vs : List V} {i : Nat} {d : D}, Reps K F ds vs → ds[i]? = some d → ∃ v, vs[i]? = some v ∧ Rep K F d v
  | _, _, _, _, .nil, h => by simp at h
  | _, _, 0, _, .cons r _, h => by simp at h; subst h; exact ⟨_, rfl, r⟩
  | _, _, i + 1, _, .cons _ r, h => by
    obtain ⟨v, h1, h2⟩ := Reps.get (i := i) r (by simpa using h)
    exact ⟨v, by simpa using h1, h2⟩
theorem Reps.get' : ∀ {ds : List D} {vs : List V} {i : Nat} {v : V}, Reps K F ds vs → vs[i]? = some v → ∃ d, ds[i]? = some d ∧ Rep K F d v
  | _, _, _, _, .nil, h => by simp at h
  | _, _, 0, _, .cons r _, h => by simp at h; subst h; exact ⟨_, rfl, r⟩
  | _, _, i + 1, _, .cons _ r, h => by
    obtain ⟨v, h1, h2⟩ := Reps.get' (i := i) r (by simpa using h)
    exact ⟨v, by simpa using h1, h2⟩
theorem Reps.append : ∀ {ds es : List D} {vs us : List V}, Reps K F ds vs → Reps K F es us → Reps K F (ds ++ es) (vs ++ us)
  | _, _, _, _, .nil, r => r
  | _, _, _, _, .cons h t, r => .cons h (t.append r)
theorem Reps.set {d : D} {v : V} (h : Rep K F d v) : ∀ {ds : List D} {vs : List V} (i : Nat), Reps K F ds vs → Reps K F (ds.set i d) (vs.set i v)
  | _, _, _, .nil => .nil
  | _, _, 0, .cons _ t => .cons h t
  | _, _, i + 1, .cons q t => .cons q (Reps.set h i t)
theorem Reps.take : ∀ {ds : List D} {vs : List V} (n : Nat), Reps K F ds vs → Reps K F (ds.take n) (vs.take n)
  | _, _, 0, _ => .nil
  | _, _, _ + 1, .nil => .nil
  | _, _, n + 1, .cons r t => .cons r (Reps.take n t)
theorem Reps.drop : ∀ {ds : List D} {vs : List V} (n : Nat), Reps K F ds vs → Reps K F (ds.drop n) (vs.drop n)
  | _, _, 0, r => r
  | _, _, _ + 1, .nil => .nil
  | _, _, n + 1, .cons _ t => Reps.drop n t
theorem RepF.length : ∀ {fs : List (Str × D)} {vs : List (Str × V)}, RepF K F fs vs → fs.length = vs.length
  | _, _, .nil => rfl
  | _, _, .cons _ r => congrArg (· + 1) r.length
theorem reps_ints (F : Hp) (K : KW) : ∀ ns : List Int, Reps K F (ns.map D.int) (ns.map V.int)
  | [] => .nil
  | n :: ns => .cons (.int n) (reps_ints F K ns)
end
/-- neither a table nor a code object -/
def plB : HO → Bool
  | .tbl _ => false
  | .ext _ => false
  | _ => true
def NT (p : Addr) (o : HO) : Prop := (∀ ps, o ≠ .tbl ps) ∧ ∀ q, o ≠ LamX.CodeO p q
theorem NT.of {p : Addr} {o : HO} (h : plB o = true) : NT p o := by
  refine ⟨fun ps z => ?_, fun q z => ?_⟩
  · rw [z] at h; cases h
  · rw [z] at h
    unfold LamX.CodeO at h
    cases h
theorem tabs_new {T : List (Addr × Str)} {H : Hp} {p : Addr} {o : HO} (hp : H p = none) (t : LamX.Tabs T H) : LamX.Tabs T (upd H p o) := t.ext fun b x e => by
  rw [upd_ne (ne_of_none e hp)]; exact e
theorem tabs_set {T : List (Addr × Str)} {H : Hp} {p : Addr} {o o' : HO} (hp : H p = some o') (n : NT p o') (t : LamX.Tabs T H) : LamX.Tabs T (upd H p o) := fun x hx => by
  obtain ⟨ps, h1, h2, h3⟩ := t x hx
  have off : ∀ {b : Addr} {u : HO}, H b = some u → (b = p → u ≠ o') → upd H p o b = some u := fun {b u} e z => by
    have hb : b ≠ p := fun y => z y (by rw [y, hp] at e; exact (Option.some.inj e).symm)
    rw [upd_ne hb]; exact e
  refine ⟨ps, off h1 fun _ y => n.1 ps y.symm, h2, fun pos cv hc => ?_⟩
  obtain ⟨c, e1, e2⟩ := h3 pos cv hc
  exact ⟨c, e1, off e2 fun y z => n.2 _ (by rw [← y]; exact z.symm)⟩
abbrev Sto := List Ob
inductive ObRep (K : KW) (F : Hp) : Ob → HO → Prop
  | lst {ds : List D} {vs : List V} : Reps K F ds vs → ObRep K F (.lst ds) (.lst vs)
  | ins {c : Str} {dx : Addr} {fs : List (Str × D)} {vs : List (Str × V)} : RepF K F fs vs → ObRep K F (.ins c fs) (.ins (He.ga K c) dx vs)
  | dead {o : HO} : plB o = true → ObRep K F .dead o
theorem ObRep.mono {K : KW} {F F' : Hp} (e : Same F F') {b : Ob} {o : HO} (h : ObRep K F b o) : ObRep K F' b o := by
  cases h with
  | lst r => exact .lst (r.mono e)
  | ins r => exact .ins (r.mono e)
  | dead p => exact .dead p
/-- F: frozen; m: the cells' places; G: a frame that is left as it is; S: the store -/
structure Wd (K : KW) (F : Hp) (m : List Addr) (G : Hp) (S : Sto) (H : Hp) : Prop where
  sub : Same F H
  gsub : Same G H
  gF : ∀ (a : Addr) (o : HO), G a = some o → F a = none
  gm : ∀ (n : Nat) (a : Addr), m[n]? = some a → G a = none
  len : m.length = S.length
  cells : ∀ (n : Nat) (a : Addr) (b : Ob), m[n]? = some a → S[n]? = some b → ∃ o, H a = some o ∧ ObRep K F b o
  off : ∀ (n : Nat) (a : Addr) (b : Ob), m[n]? = some a → S[n]? = some b → b ≠ .dead → F a = none
  inj : ∀ (n k : Nat) (a : Addr), m[n]? = some a → m[k]? = some a → n = k
  tab : LamX.Tabs (tabL K) H
  fT : ∀ (a : Addr) (o : HO), F a = some o → NT a o
  gT : ∀ (a : Addr) (o : HO), G a = some o → NT a o
def RepV (K : KW) (F : Hp) (m : List Addr) : Vl → V → Prop
  | .d x, v => Rep K F x v
  | .c n, v => ∃ a, m[n]? = some a ∧ v = .ref a
inductive RepVs (K : KW) (F : Hp) (m : List Addr) : List Vl → List V → Prop
  | nil : RepVs K F m [] []
  | cons {x : Vl} {v : V} {xs : List Vl} {vs : List V} : RepV K F m x v → RepVs K F m xs vs → RepVs K F m (x :: xs) (v :: vs)
/-- what may come: more frozen, more cells -/
structure Ext (F F' : Hp) (m m' : List Addr) : Prop where
  fro : Same F F'
  pre : m <+: m'
theorem Ext.refl (F : Hp) (m : List Addr) : Ext F F m m := ⟨Same.refl F, List.prefix_refl m⟩
theorem Ext.trans {F F1 F2 : Hp} {m m1 m2 : List Addr} (a : Ext F F1 m m1) (b : Ext F1 F2 m1 m2) : Ext F F2 m m2 := ⟨a.fro.trans b.fro, a.pre.trans b.pre⟩
theorem Ext.at {F F' : Hp} {m m' : List Addr} (e : Ext F F' m m') {n : Nat} {a : Addr} (h : m[n]? = some a) : m'[n]? = some a := by
  obtain ⟨t, rfl⟩ := e.pre
  have hn : n < m.length := (List.getElem?_eq_some_iff.mp h).1
  rw [List.getElem?_append_left hn]
  exact h
theorem RepV.mono {K : KW} {F F' : Hp} {m m' : List Addr} (e : Ext F F' m m') {x : Vl} {v : V} (h : RepV K F m x v) : RepV K F' m' x v := by
  cases x with
  | d x => exact Rep.mono e.fro h
  | c n =>
    obtain ⟨a, h1, h2⟩ := h
    exact ⟨a, e.at h1, h2⟩
theorem RepVs.mono {K : KW} {F F' : Hp} {m m' : List Addr} (e : Ext F F' m m') : ∀ {xs : List Vl} {vs : List V}, RepVs K F m xs vs → RepVs K F' m' xs vs
  | _, _, .nil => .nil
  | _, _, .cons h r => .cons (h.mono e) (RepVs.mono e r)
theorem RepVs.length {K : KW} {F : Hp} {m : List Addr} : ∀ {xs : List Vl} {vs : List V}, RepVs K F m xs vs → xs.length = vs.length
  | _, _, .nil => rfl
  | _, _, .cons _ r => congrArg (· + 1) r.length
section
variable {K : KW} {F G H : Hp} {m : List Addr} {S : Sto}
theorem ObRep.pl {b : Ob} {o : HO} (h : ObRep K F b o) : plB o = true := by
  cases h with
  | dead p => exact p
  | _ => rfl
theorem Wd.ne (w : Wd K F m G S H) {p : Addr} (hp : H p = none) {n : Nat} {a : Addr} (h : m[n]? = some a) : a ≠ p := by
  have hn : n < m.length := (List.getElem?_eq_some_iff.mp h).1
  have hs : n < S.length := by rw [← w.len]; exact hn
  obtain ⟨o, ho, _⟩ := w.cells n a _ h (List.getElem?_eq_getElem hs)
  exact ne_of_none ho hp
theorem Wd.fresh (w : Wd K F m G S H) {p : Addr} (hp : H p = none) : F p = none := by
  cases q : F p with
  | none => rfl
  | some o => rw [w.sub _ _ q] at hp; cases hp
theorem Wd.gfresh (w : Wd K F m G S H) {p : Addr} (hp : H p = none) : G p = none := by
  cases q : G p with
  | none => rfl
  | some o => rw [w.gsub _ _ q] at hp; cases hp
theorem same_upd {F : Hp} {p : Addr} {o : HO} (h : F p = none) : Same F (upd F p o) := fun b x e => by
  rw [upd_ne (ne_of_none e h)]; exact e
/-- a frozen object is laid -/
theorem nt_upd {F : Hp} {p : Addr} {o : HO} (h : ∀ (a : Addr) (x : HO), F a = some x → NT a x) (n : NT p o) : ∀ (a : Addr) (x : HO), upd F p o a = some x → NT a x := fun b x e => by
  by_cases hb : b = p
  · subst hb; rw [upd_same] at e; cases e; exact n
  · rw [upd_ne hb] at e; exact h b x e
theorem Wd.lay (w : Wd K F m G S H) {p : Addr} (hp : H p = none) (o : HO) (pl : plB o = true := by rfl) : Wd K (upd F p o) m G S (upd H p o) where
  tab := tabs_new hp w.tab
  fT := nt_upd w.fT (NT.of pl)
  gT := w.gT
  sub := fun b x e => by
    by_cases hb : b = p
    · subst hb; rw [upd_same] at e ⊢; exact e
    · rw [upd_ne hb] at e ⊢; exact w.sub b x e
  gsub := fun b x e => by rw [upd_ne (ne_of_none e (w.gfresh hp))]; exact w.gsub b x e
  gF := fun b x e => by rw [upd_ne (ne_of_none e (w.gfresh hp))]; exact w.gF b x e
  gm := w.gm
  len := w.len
  cells := fun n a b h1 h2 => by
    obtain ⟨x, hx, r⟩ := w.cells n a b h1 h2
    exact ⟨x, by rw [upd_ne (w.ne hp h1)]; exact hx, r.mono (same_upd (w.fresh hp))⟩
  off := fun n a b h hs hd => by rw [upd_ne (w.ne hp h)]; exact w.off n a b h hs hd
  inj := w.inj
theorem Ext.lay {F : Hp} {m : List Addr} {p : Addr} {o : HO} (h : F p = none) : Ext F (upd F p o) m m := ⟨same_upd h, List.prefix_refl m⟩
/-- a cell is laid -/
theorem Wd.cell (w : Wd K F m G S H) {p : Addr} (hp : H p = none) {b : Ob} {o : HO} (r : ObRep K F b o) : Wd K F (m ++ [p]) G (S ++ [b]) (upd H p o) where
  tab := tabs_new hp w.tab
  fT := w.fT
  gT := w.gT
  sub := fun c x e => by rw [upd_ne (ne_of_none e (w.fresh hp))]; exact w.sub c x e
  gsub := fun c x e => by rw [upd_ne (ne_of_none e (w.gfresh hp))]; exact w.gsub c x e
  gF := w.gF
  gm := fun n a h1 => by
    by_cases hn : n < m.length
    · rw [List.getElem?_append_left hn] at h1
      exact w.gm n a h1
    · rw [List.getElem?_append_right (by omega)] at h1
      have hz : n - m.length = 0 := by
        have := (List.getElem?_eq_some_iff.mp h1).1
        simp at this; omega
      rw [hz] at h1
      simp at h1
      subst h1
      exact w.gfresh hp
  len := by rw [List.length_append, List.length_append, w.len]; rfl
  cells := fun n a c h1 h2 => by
    by_cases hn : n < m.length
    · rw [List.getElem?_append_left hn] at h1
      rw [List.getElem?_append_left (by rw [← w.len]; exact hn)] at h2
      obtain ⟨x, hx, r⟩ := w.cells n a c h1 h2
      exact ⟨x, by rw [upd_ne (w.ne hp h1)]; exact hx, r⟩
    · rw [List.getElem?_append_right (by omega)] at h1
      rw [List.getElem?_append_right (by rw [← w.len]; omega)] at h2
      have hz : n - m.length = 0 := by
        have := (List.getElem?_eq_some_iff.mp h1).1
        simp at this; omega
      rw [hz] at h1
      rw [← w.len, hz] at h2
      simp at h1 h2
      subst h1 h2
      exact ⟨o, upd_same, r⟩
  off := fun n a c h1 hs hd => by
    by_cases hn : n < m.length
    · rw [List.getElem?_append_left hn] at h1
      rw [List.getElem?_append_left (by rw [← w.len]; exact hn)] at hs
      exact w.off n a c h1 hs hd
    · rw [List.getElem?_append_right (by omega)] at h1
      have hz : n - m.length = 0 := by
        have := (List.getElem?_eq_some_iff.mp h1).1
        simp at this; omega
      rw [hz] at h1
      simp at h1
      subst h1
      exact w.fresh hp
  inj := fun n k a h1 h2 => by
    have key : ∀ (j : Nat), (m ++ [p])[j]? = some a → (j < m.length ∧ m[j]? = some a) ∨ (j = m.length ∧ a = p) := fun j h => by
      by_cases hn : j < m.length
      · rw [List.getElem?_append_left hn] at h
        exact .inl ⟨hn, h⟩
      · rw [List.getElem?_append_right (by omega)] at h
        have hz : j - m.length = 0 := by
          have := (List.getElem?_eq_some_iff.mp h).1
          simp at this; omega
        rw [hz] at h
        simp at h
        exact .inr ⟨by omega, h.symm⟩
    rcases key n h1 with ⟨_, q1⟩ | ⟨e1, q1⟩ <;> rcases key k h2 with ⟨_, q2⟩ | ⟨e2, q2⟩
    · exact w.inj n k a q1 q2
    · exact absurd q2 (w.ne hp q1)
    · exact absurd q1 (w.ne hp q2)
    · omega
theorem Ext.cell {F : Hp} {m : List Addr} (p : Addr) : Ext F F m (m ++ [p]) := ⟨Same.refl F, List.prefix_append m [p]⟩
/-- a cell is written -/
theorem Wd.write (w : Wd K F m G S H) {n : Nat} {a : Addr} (hn : m[n]? = some a) {b : Ob} {o : HO} (r : ObRep K F b o) (hlive : ∀ b0, S[n]? = some b0 → b0 ≠ .dead) : Wd K F m G (S.set n b) (upd H a o) where
  tab := by
    have hl : n < S.length := by rw [← w.len]; exact (List.getElem?_eq_some_iff.mp hn).1
    obtain ⟨x, hx, q⟩ := w.cells n a _ hn (List.getElem?_eq_getElem hl)
    exact tabs_set hx (NT.of q.pl) w.tab
  fT := w.fT
  gT := w.gT
  sub := fun c x e => by
    have hl : n < S.length := by rw [← w.len]; exact (List.getElem?_eq_some_iff.mp hn).1
    have hc : c ≠ a := fun z => by subst z; rw [w.off n c _ hn (List.getElem?_eq_getElem hl) (hlive _ (List.getElem?_eq_getElem hl))] at e; cases e
    rw [upd_ne hc]; exact w.sub c x e
  gsub := fun c x e => by
    have hc : c ≠ a := fun z => by subst z; rw [w.gm n c hn] at e; cases e
    rw [upd_ne hc]; exact w.gsub c x e
  gF := w.gF
  gm := w.gm
  len := by rw [List.length_set]; exact w.len
  cells := fun k c x h1 h2 => by
    by_cases hk : k = n
    · subst hk
      rw [hn] at h1; cases h1
      have hl : k < S.length := by rw [← w.len]; exact (List.getElem?_eq_some_iff.mp hn).1
      rw [List.getElem?_set_self hl] at h2; cases h2
      exact ⟨o, upd_same, r⟩
    · rw [List.getElem?_set_ne (fun z => hk z.symm)] at h2
      obtain ⟨y, hy, q⟩ := w.cells k c x h1 h2
      have hc : c ≠ a := fun z => hk (w.inj k n c h1 (by rw [z]; exact hn))
      exact ⟨y, by rw [upd_ne hc]; exact hy, q⟩
  off := fun k c x h1 hs hd => by
    by_cases hk : k = n
    · subst hk
      rw [hn] at h1
      cases h1
      have hl : k < S.length := by rw [← w.len]; exact (List.getElem?_eq_some_iff.mp hn).1
      exact w.off k a _ hn (List.getElem?_eq_getElem hl) (hlive _ (List.getElem?_eq_getElem hl))
    · rw [List.getElem?_set_ne (fun z => hk z.symm)] at hs
      exact w.off k c x h1 hs hd
  inj := w.inj
/-- young cells are forgotten -/
theorem Wd.cut (w : Wd K F m G S H) (n : Nat) : Wd K F (m.take n) G (S.take n) H where
  tab := w.tab
  fT := w.fT
  gT := w.gT
  sub := w.sub
  gsub := w.gsub
  gF := w.gF
  gm := fun k a h1 => by
    have hk : k < n := by
      have := (List.getElem?_eq_some_iff.mp h1).1
      rw [List.length_take] at this; omega
    rw [List.getElem?_take_of_lt hk] at h1
    exact w.gm k a h1
  len := by rw [List.length_take, List.length_take, w.len]
  cells := fun k a b h1 h2 => by
    have hk : k < n := by
      have := (List.getElem?_eq_some_iff.mp h1).1
      rw [List.length_take] at this; omega
    rw [List.getElem?_take_of_lt hk] at h1 h2
    exact w.cells k a b h1 h2
  off := fun k a b h1 hs hd => by
    have hk : k < n := by
      have := (List.getElem?_eq_some_iff.mp h1).1
      rw [List.length_take] at this; omega
    rw [List.getElem?_take_of_lt hk] at h1 hs
    exact w.off k a b h1 hs hd
  inj := fun k j a h1 h2 => by
    have hk : k < n := by
      have := (List.getElem?_eq_some_iff.mp h1).1
      rw [List.length_take] at this; omega
    have hj : j < n := by
      have := (List.getElem?_eq_some_iff.mp h2).1
      rw [List.length_take] at this; omega
    rw [List.getElem?_take_of_lt hk] at h1
    rw [List.getElem?_take_of_lt hj] at h2
    exact w.inj k j a h1 h2
/-- .. but one, which becomes the last -/
theorem Wd.cut1 (w : Wd K F m G S H) {n k : Nat} {a : Addr} {b : Ob} (hk : n ≤ k) (h1 : m[k]? = some a) (h2 : S[k]? = some b) : Wd K F (m.take n ++ [a]) G (S.take n ++ [b]) H := by
  have hkm : k < m.length := (List.getElem?_eq_some_iff.mp h1).1
  have hkS : k < S.length := (List.getElem?_eq_some_iff.mp h2).1
  have ln : (m.take n).length = n := by rw [List.length_take]; omega
  have lS : (S.take n).length = n := by rw [List.length_take]; omega
  have key : ∀ (j : Nat) (c : Addr), (m.take n ++ [a])[j]? = some c → (j < n ∧ m[j]? = some c) ∨ (j = n ∧ c = a) := fun j c h => by
    by_cases hj : j < n
    · rw [List.getElem?_append_left (by omega), List.getElem?_take_of_lt hj] at h
      exact .inl ⟨hj, h⟩
    · rw [List.getElem?_append_right (by omega), ln] at h
      have hz : j - n = 0 := by
        have := (List.getElem?_eq_some_iff.mp h).1
        simp at this; omega
      rw [hz] at h
      simp at h
      exact .inr ⟨by omega, h.symm⟩
  refine ⟨w.sub, w.gsub, w.gF, fun j c e => ?_, by rw [List.length_append, List.length_append, ln, lS]; rfl, fun j c x e1 e2 => ?_, fun j c x e e2 hd => ?_, fun j i c e1 e2 => ?_, w.tab, w.fT, w.gT⟩
  · rcases key j c e with ⟨hj, q⟩ | ⟨rfl, rfl⟩
    · exact w.gm j c q
    · exact w.gm k c h1
  · rcases key j c e1 with ⟨hj, q⟩ | ⟨rfl, rfl⟩
    · rw [List.getElem?_append_left (by omega), List.getElem?_take_of_lt hj] at e2
      exact w.cells j c x q e2
    · rw [List.getElem?_append_right (by omega), lS, Nat.sub_self] at e2
      simp at e2
      subst e2
      exact w.cells k c b h1 h2
  · rcases key j c e with ⟨hj, q⟩ | ⟨rfl, rfl⟩
    · rw [List.getElem?_append_left (by omega), List.getElem?_take_of_lt hj] at e2
      exact w.off j c x q e2 hd
    · rw [List.getElem?_append_right (by omega), lS, Nat.sub_self] at e2
      simp at e2
      subst e2
      exact w.off k c b h1 h2 hd
  · rcases key j c e1 with ⟨hj, q⟩ | ⟨rfl, rfl⟩ <;> rcases key i c e2 with ⟨hi, q'⟩ | ⟨rfl, q'⟩
    · exact w.inj j i c q q'
    · subst q'
      have := w.inj j k c q h1
      omega
    · have := w.inj i k c q' h1
      omega
    · rfl
end
/-- an exception: its class, by name, and what it keeps -/
inductive Exn where
  | mk (c : Str) (fs : List (Str × D))
  deriving Inhabited
inductive R (α : Type) where
  | ok (a : α) (S : Sto)
  | err (x : Exn) (S : Sto)
  | no
abbrev M (α : Type) := Sto → R α
def pur {α : Type} (a : α) : M α := fun S => .ok a S
def bnd {α β : Type} (f : M α) (g : α → M β) : M β := fun S => match f S with
  | .ok a S' => g a S'
  | .err x S' => .err x S'
  | .no => .no
def stuck {α : Type} : M α := fun _ => .no
abbrev Env := List (Option Vl)
structure RepE (K : KW) (F : Hp) (m : List Addr) (ρ : Env) (σ : L2.St) : Prop where
  len : ρ.length = σ.length
  at_ : ∀ (i : Nat) (x : Vl), ρ[i]? = some (some x) → ∃ v, σ[i]? = some (some v) ∧ RepV K F m x v
theorem RepE.mono {K : KW} {F F' : Hp} {m m' : List Addr} (e : Ext F F' m m') {ρ : Env} {σ : L2.St} (h : RepE K F m ρ σ) : RepE K F' m' ρ σ :=
  ⟨h.len, fun i x q => let ⟨v, h1, h2⟩ := h.at_ i x q; ⟨v, h1, h2.mono e⟩⟩
theorem RepE.set {K : KW} {F : Hp} {m : List Addr} {ρ : Env} {σ : L2.St} (h : RepE K F m ρ σ) {x : Vl} {v : V} (r : RepV K F m x v) (i : Nat) : RepE K F m (ρ.set i (some x)) (σ.set i (some v)) := by
  refine ⟨by rw [List.length_set, List.length_set]; exact h.len, fun j y q => ?_⟩
  by_cases hj : j = i
  · subst hj
    by_cases hl : j < ρ.length
    · rw [List.getElem?_set_self hl] at q
      cases q
      exact ⟨v, List.getElem?_set_self (by rw [← h.len]; exact hl), r⟩
    · rw [List.getElem?_eq_none (by rw [List.length_set]; omega)] at q
      cases q
  · rw [List.getElem?_set_ne (fun z => hj z.symm)] at q
    obtain ⟨u, h1, h2⟩ := h.at_ j y q
    exact ⟨u, by rw [List.getElem?_set_ne (fun z => hj z.symm)]; exact h1, h2⟩
theorem RepE.unset {K : KW} {F : Hp} {m : List Addr} {ρ : Env} {σ : L2.St} (h : RepE K F m ρ σ) (i : Nat) (z : Option V) : RepE K F m (ρ.set i none) (σ.set i z) := by
  refine ⟨by rw [List.length_set, List.length_set]; exact h.len, fun j y q => ?_⟩
  by_cases hj : j = i
  · subst hj
    by_cases hl : j < ρ.length
    · rw [List.getElem?_set_self hl] at q; cases q
    · rw [List.getElem?_eq_none (by rw [List.length_set]; omega)] at q; cases q
  · rw [List.getElem?_set_ne (fun z => hj z.symm)] at q
    obtain ⟨u, h1, h2⟩ := h.at_ j y q
    exact ⟨u, by rw [List.getElem?_set_ne (fun z => hj z.symm)]; exact h1, h2⟩
section
variable {K : KW} {F G H : Hp} {m : List Addr} {S : Sto}
/-- an object that is neither frozen nor a cell joins the frame -/
theorem Wd.frame (w : Wd K F m G S H) {p : Addr} {o : HO} (hp : H p = some o) (hF : F p = none) (hm : ∀ n : Nat, m[n]? ≠ some p) (nt : NT p o := by exact NT.of rfl) : Wd K F m (upd G p o) S H where
  tab := w.tab
  fT := w.fT
  gT := nt_upd w.gT nt
  sub := w.sub
  gsub := fun b x e => by
    by_cases hb : b = p
    · subst hb; rw [upd_same] at e; cases e; exact hp
    · rw [upd_ne hb] at e; exact w.gsub b x e
  gF := fun b x e => by
    by_cases hb : b = p
    · subst hb; exact hF
    · rw [upd_ne hb] at e; exact w.gF b x e
  gm := fun n a h => by
    have hb : a ≠ p := fun z => hm n (by rw [← z]; exact h)
    rw [upd_ne hb]; exact w.gm n a h
  len := w.len
  cells := w.cells
  off := w.off
  inj := w.inj
/-- .. and leaves it, turned -/
theorem Wd.unframe {p : Addr} {o o' : HO} (w : Wd K F m (upd G p o) S H) (hG : G p = none) : Wd K F m G S (upd H p o') where
  tab := tabs_set (w.gsub p o upd_same) (w.gT p o upd_same) w.tab
  fT := w.fT
  gT := fun b x e => w.gT b x (by rw [upd_ne (ne_of_none e hG)]; exact e)
  sub := fun b x e => by
    have hb : b ≠ p := fun z => by
      subst z
      rw [w.gF b o upd_same] at e; cases e
    rw [upd_ne hb]; exact w.sub b x e
  gsub := fun b x e => by
    have hb : b ≠ p := ne_of_none e hG
    rw [upd_ne hb]
    exact w.gsub b x (by rw [upd_ne hb]; exact e)
  gF := fun b x e => w.gF b x (by rw [upd_ne (ne_of_none e hG)]; exact e)
  gm := fun n a h => by
    have hb : a ≠ p := fun z => by
      have := w.gm n a h
      rw [z, upd_same] at this; cases this
    have := w.gm n a h
    rw [upd_ne hb] at this; exact this
  len := w.len
  cells := fun n a b h1 h2 => by
    have hb : a ≠ p := fun z => by
      have := w.gm n a h1
      rw [z, upd_same] at this; cases this
    obtain ⟨x, hx, r⟩ := w.cells n a b h1 h2
    exact ⟨x, by rw [upd_ne hb]; exact hx, r⟩
  off := w.off
  inj := w.inj
/-- what stands in the frame is frozen for good -/
theorem Wd.freeze {p : Addr} {o : HO} (w : Wd K F m (upd G p o) S H) (hG : G p = none) : Wd K (upd F p o) m G S H where
  tab := w.tab
  fT := nt_upd w.fT (w.gT p o upd_same)
  gT := fun b x e => w.gT b x (by rw [upd_ne (ne_of_none e hG)]; exact e)
  sub := fun b x e => by
    by_cases hb : b = p
    · subst hb; rw [upd_same] at e; cases e; exact w.gsub b _ upd_same
    · rw [upd_ne hb] at e; exact w.sub b x e
  gsub := fun b x e => w.gsub b x (by rw [upd_ne (ne_of_none e hG)]; exact e)
  gF := fun b x e => by
    have hb : b ≠ p := ne_of_none e hG
    rw [upd_ne hb]; exact w.gF b x (by rw [upd_ne hb]; exact e)
  gm := fun n a h => by
    have hb : a ≠ p := fun z => by
      have := w.gm n a h
      rw [z, upd_same] at this; cases this
    have := w.gm n a h
    rw [upd_ne hb] at this; exact this
  len := w.len
  cells := fun n a b h1 h2 => by
    obtain ⟨x, hx, r⟩ := w.cells n a b h1 h2
    exact ⟨x, hx, r.mono (same_upd (w.gF p o upd_same))⟩
  off := fun n a b h hs hd => by
    have hb : a ≠ p := fun z => by
      have := w.gm n a h
      rw [z, upd_same] at this; cases this
    rw [upd_ne hb]; exact w.off n a b h hs hd
  inj := w.inj
/-- a cell is frozen for good: what stands in its place is never asked again -/
theorem Wd.die (w : Wd K F m G S H) {n : Nat} {a : Addr} {o : HO} (hn : m[n]? = some a) (hH : H a = some o) (hp : plB o = true) (hF : F a = none) : Wd K (upd F a o) m G (S.set n .dead) H where
  tab := w.tab
  fT := nt_upd w.fT (NT.of hp)
  gT := w.gT
  sub := fun b x e => by
    by_cases hb : b = a
    · subst hb; rw [upd_same] at e; cases e; exact hH
    · rw [upd_ne hb] at e; exact w.sub b x e
  gsub := w.gsub
  gF := fun b x e => by
    have hb : b ≠ a := fun z => by
      have := w.gm n a hn
      rw [← z, e] at this; cases this
    rw [upd_ne hb]; exact w.gF b x e
  gm := w.gm
  len := by rw [List.length_set]; exact w.len
  cells := fun k c x h1 h2 => by
    by_cases hk : k = n
    · subst hk
      rw [hn] at h1; cases h1
      have hl : k < S.length := by rw [← w.len]; exact (List.getElem?_eq_some_iff.mp hn).1
      rw [List.getElem?_set_self hl] at h2; cases h2
      exact ⟨o, hH, .dead hp⟩
    · rw [List.getElem?_set_ne (fun z => hk z.symm)] at h2
      obtain ⟨y, hy, q⟩ := w.cells k c x h1 h2
      exact ⟨y, hy, q.mono (same_upd hF)⟩
  off := fun k c x h1 h2 hd => by
    by_cases hk : k = n
    · subst hk
      have hl : k < S.length := by rw [← w.len]; exact (List.getElem?_eq_some_iff.mp hn).1
      rw [List.getElem?_set_self hl] at h2
      exact absurd (Option.some.inj h2).symm hd
    · rw [List.getElem?_set_ne (fun z => hk z.symm)] at h2
      have hc : c ≠ a := fun z => hk (w.inj k n c h1 (by rw [z]; exact hn))
      rw [upd_ne hc]
      exact w.off k c x h1 h2 hd
  inj := w.inj
/-- a new object joins the frame -/
theorem Wd.push (w : Wd K F m G S H) {p : Addr} (hp : H p = none) (o : HO) (nt : NT p o := by exact NT.of rfl) : Wd K F m (upd G p o) S (upd H p o) := by
  have w1 : Wd K F m G S (upd H p o) := ⟨fun b x e => by rw [upd_ne (ne_of_none e (w.fresh hp))]; exact w.sub b x e, fun b x e => by rw [upd_ne (ne_of_none e (w.gfresh hp))]; exact w.gsub b x e, w.gF, w.gm, w.len,
    fun n a b h1 h2 => by
      obtain ⟨x, hx, r⟩ := w.cells n a b h1 h2
      exact ⟨x, by rw [upd_ne (w.ne hp h1)]; exact hx, r⟩, w.off, w.inj, tabs_new hp w.tab, w.fT, w.gT⟩
  exact w1.frame upd_same (w.fresh hp) (fun n z => (w.ne hp z) rfl) nt
end
/-- an exception as it flies: its class, its dict -/
def ExRep (K : KW) (F : Hp) : Exn → Value → Option Addr → Prop
  | .mk c fs, cls, d => cls = .ref (He.ga K c) ∧ ((fs = [] ∧ d = none) ∨ (fs ≠ [] ∧ ∃ dd vs, d = some dd ∧ F dd = some (.xd vs) ∧ RepF K F fs vs))
/-- what is wanted where an exception leaves -/
abbrev ErT := Exn → Hp → Hp → Prop
def er0 : ErT := fun _ _ _ => False
def erE (K : KW) (E : XK) : ErT := fun x F H => ∀ cls d, ExRep K F x cls d → E cls d H
/-- the readings -/
def res {α β : Type} (K : KW) (Er : ErT) (Rel : Hp → List Addr → α → β → Prop) (F : Hp) (m : List Addr) (G : Hp) (r : R α) (Q : β → Hp → Prop) : Prop := match r with
  | .ok a S' => ∀ (F' : Hp) (m' : List Addr) (H' : Hp) (b : β), Ext F F' m m' → Wd K F' m' G S' H' → Rel F' m' a b → Q b H'
  | .err x S' => ∀ (F' : Hp) (m' : List Addr) (H' : Hp), Ext F F' m m' → Wd K F' m' G S' H' → Er x F' H'
  | .no => False
abbrev rV (K : KW) : Hp → List Addr → Vl → V → Prop := fun F m => RepV K F m
abbrev rVs (K : KW) : Hp → List Addr → List Vl → List V → Prop := fun F m => RepVs K F m
abbrev rB : Hp → List Addr → Bool → Bool → Prop := fun _ _ a b => a = b
def rd {α β : Type} (K : KW) (Er : ErT) (Rel : Hp → List Addr → α → β → Prop) (f : Env → M α) : L2.St → Hp → (β → Hp → Prop) → Prop := fun σ H Q => ∃ F m G S ρ, Wd K F m G S H ∧ RepE K F m ρ σ ∧ res K Er Rel F m G (f ρ S) Q
abbrev tE (K : KW) (Er : ErT) (f : Env → M Vl) : TE := rd K Er (rV K) f
abbrev tT (K : KW) (Er : ErT) (f : Env → M Bool) : TT := rd K Er rB f
abbrev tA (K : KW) (Er : ErT) (f : Env → M (List Vl)) : TA := rd K Er (rVs K) f
inductive Out where
  | nx (ρ : Env) | rt (x : Vl) | bk (ρ : Env) | ct (ρ : Env)
def outS (K : KW) (D : Ends) (F : Hp) (m : List Addr) (H : Hp) : Out → Prop
  | .nx ρ => ∀ σ, RepE K F m ρ σ → D.nx σ H
  | .rt x => ∀ v, RepV K F m x v → D.rt v H
  | .bk ρ => ∀ σ, RepE K F m ρ σ → D.bk σ H
  | .ct ρ => ∀ σ, RepE K F m ρ σ → D.ct σ H
def resS (K : KW) (Er : ErT) (D : Ends) (F : Hp) (m : List Addr) (G : Hp) (r : R Out) : Prop := match r with
  | .ok o S' => ∀ (F' : Hp) (m' : List Addr) (H' : Hp), Ext F F' m m' → Wd K F' m' G S' H' → outS K D F' m' H' o
  | .err x S' => ∀ (F' : Hp) (m' : List Addr) (H' : Hp), Ext F F' m m' → Wd K F' m' G S' H' → Er x F' H'
  | .no => False
def tS (K : KW) (Er : ErT) (f : Env → M Out) : TS := fun D σ H => ∃ F m G S ρ, Wd K F m G S H ∧ RepE K F m ρ σ ∧ resS K Er D F m G (f ρ S)
/-- the judgements -/
abbrev ME (X : Cx) (Er : ErT) (e : Expr) (f : Env → M Vl) : Prop := PE X e (tE X.kw Er f)
abbrev MT (X : Cx) (Er : ErT) (e : Expr) (f : Env → M Bool) : Prop := PT X e (tT X.kw Er f)
abbrev MA (X : Cx) (Er : ErT) (es : List Expr) (f : Env → M (List Vl)) : Prop := PA X es (tA X.kw Er f)
abbrev MS (X : Cx) (Er : ErT) (st : Stmt) (f : Env → M Out) : Prop := PS X st (tS X.kw Er f)
abbrev MSs (X : Cx) (Er : ErT) (st : List Stmt) (f : Env → M Out) : Prop := PSs X st (tS X.kw Er f)
theorem PE.imp {X : Cx} {e : Expr} {t t' : TE} (h : PE X e t) (i : ∀ σ H Q, t' σ H Q → t σ H Q) : PE X e t' := ⟨fun pins s σ H Q I q => h.run pins s σ H Q I (i σ H Q q)⟩
theorem PT.imp {X : Cx} {e : Expr} {t t' : TT} (h : PT X e t) (i : ∀ σ H Q, t' σ H Q → t σ H Q) : PT X e t' := ⟨fun pins s σ H Q I q => h.run pins s σ H Q I (i σ H Q q)⟩
theorem PA.imp {X : Cx} {e : List Expr} {t t' : TA} (h : PA X e t) (i : ∀ σ H Q, t' σ H Q → t σ H Q) : PA X e t' := ⟨fun p pins s σ H Q I q => h.run p pins s σ H Q I (i σ H Q q)⟩
theorem PS.imp {X : Cx} {e : Stmt} {t t' : TS} (h : PS X e t) (i : ∀ D σ H, t' D σ H → t D σ H) : PS X e t' := ⟨fun pins s σ H D I q => h.run pins s σ H D I (i D σ H q)⟩
theorem PSs.imp {X : Cx} {e : List Stmt} {t t' : TS} (h : PSs X e t) (i : ∀ D σ H, t' D σ H → t D σ H) : PSs X e t' := ⟨fun pins s σ H D I q => h.run pins s σ H D I (i D σ H q)⟩
section
variable {α β γ δ : Type} {K : KW} {A : Hp → List Addr → α → β → Prop} {B : Hp → List Addr → γ → δ → Prop} {F F1 G H : Hp} {m m1 : List Addr} {S : Sto} {ρ : Env} {σ : L2.St}
theorem res_ext {r : R α} {Q : β → Hp → Prop} (e : Ext F F1 m m1) (h : res K Er A F m G r Q) : res K Er A F1 m1 G r Q := by
  cases r with
  | ok a S' => exact fun F' m' H' b e' w r => h F' m' H' b (e.trans e') w r
  | err x S' => exact fun F' m' H' e' w => h F' m' H' (e.trans e') w
  | no => exact h
theorem resS_ext {r : R Out} {D : Ends} (e : Ext F F1 m m1) (h : resS K Er D F m G r) : resS K Er D F1 m1 G r := by
  cases r with
  | ok a S' => exact fun F' m' H' e' w => h F' m' H' (e.trans e') w
  | err x S' => exact fun F' m' H' e' w => h F' m' H' (e.trans e') w
  | no => exact h
/-- the answer is there -/
theorem res_ok {a : α} {b : β} {Q : β → Hp → Prop} (w : Wd K F m G S H) (r : A F m a b) (h : res K Er A F m G (.ok a S) Q) : Q b H := h F m H b (Ext.refl F m) w r
/-- what bnd f g reads, from the reading of f -/
theorem rd_bnd {f : Env → M α} {g : α → M γ} {Q : δ → Hp → Prop} (w : Wd K F m G S H) (r : RepE K F m ρ σ) (h : res K Er B F m G (bnd (f ρ) g S) Q) :
    rd K Er A f σ H fun b H' => ∃ F' m' S' a, Ext F F' m m' ∧ Wd K F' m' G S' H' ∧ RepE K F' m' ρ σ ∧ A F' m' a b ∧ res K Er B F' m' G (g a S') Q := by
  refine ⟨F, m, G, S, ρ, w, r, ?_⟩
  unfold bnd at h
  cases q : f ρ S with
  | ok a S' =>
    rw [q] at h
    exact fun F' m' H' b e w' rb => ⟨F', m', S', a, e, w', r.mono e, rb, res_ext e h⟩
  | err x S' => rw [q] at h; exact h
  | no => rw [q] at h; exact h.elim
theorem rd_bndS {f : Env → M α} {g : α → M Out} {D : Ends} (w : Wd K F m G S H) (r : RepE K F m ρ σ) (h : resS K Er D F m G (bnd (f ρ) g S)) :
    rd K Er A f σ H fun b H' => ∃ F' m' S' a, Ext F F' m m' ∧ Wd K F' m' G S' H' ∧ RepE K F' m' ρ σ ∧ A F' m' a b ∧ resS K Er D F' m' G (g a S') := by
  refine ⟨F, m, G, S, ρ, w, r, ?_⟩
  unfold bnd at h
  cases q : f ρ S with
  | ok a S' =>
    rw [q] at h
    exact fun F' m' H' b e w' rb => ⟨F', m', S', a, e, w', r.mono e, rb, resS_ext e h⟩
  | err x S' => rw [q] at h; exact h
  | no => rw [q] at h; exact h.elim
/-- the reading holds of what it says -/
theorem rd_mono {f : Env → M α} {Q Q' : β → Hp → Prop} (h : rd K Er A f σ H Q) (i : ∀ b H', Q b H' → Q' b H') : rd K Er A f σ H Q' := by
  obtain ⟨F, m, G, S, ρ, w, r, h⟩ := h
  refine ⟨F, m, G, S, ρ, w, r, ?_⟩
  cases q : f ρ S with
  | ok a S' => rw [q] at h; exact fun F' m' H' b e w' rb => i b H' (h F' m' H' b e w' rb)
  | err x S' => rw [q] at h; exact h
  | no => rw [q] at h; exact h.elim
end
end Dz
namespace Dz
open PySem PySem.Spec PyProof.Rows L2
def eVar (i : Nat) : Env → M Vl := fun ρ => match ρ[i]? with
  | some (some x) => pur x
  | _ => stuck
def eC (d : D) : Env → M Vl := fun _ => pur (.d d)
section
variable {X : Cx} {a b c : Expr} {pos : Pos} {f g h : Env → M Vl}
theorem me_var (i : Nat) {x : Str} {pos : Pos} (hN : X.N[i]? = some x := by rfl) (hv : Vis X.env.scope x := by first | exact Or.inl rfl | exact Or.inr (Or.inl rfl) | exact Or.inr (Or.inr rfl)) (hd : (x == ("__debug__" : Str)) = false := by decide)
    (hcd : (x == ("__classdict__" : Str)) = false := by decide) : ME X Er (.Name x pos) (eVar i) := PE.imp (pe_var hN hv hd hcd) fun σ H Q ⟨F, m, G, S, ρ, w, r, h⟩ => by
  unfold eVar at h
  rcases q : ρ[i]? with _ | _ | x
  · rw [q] at h; exact h.elim
  · rw [q] at h; exact h.elim
  · rw [q] at h
    obtain ⟨v, h1, h2⟩ := r.at_ i x q
    exact ⟨v, h1, res_ok w h2 h⟩
theorem me_c {e : Expr} {v : V} {d : D} (he : PE X e (tC v)) (hr : ∀ K F, Rep K F d v) : ME X Er e (eC d) := PE.imp he fun σ H Q ⟨F, m, G, S, ρ, w, r, h⟩ => res_ok w (hr _ _) h
theorem me_int {i : Int} {j : Nat} {pos : Pos} : ME X Er (.Constant (.int i) j pos) (eC (.int i)) := me_c pe_int fun _ _ => .int i
theorem me_bl {i : Bool} {j : Nat} {pos : Pos} : ME X Er (.Constant (.bool i) j pos) (eC (.bl i)) := me_c pe_bl fun _ _ => .bl i
theorem me_non {j : Nat} {pos : Pos} : ME X Er (.Constant .none j pos) (eC .non) := me_c pe_non fun _ _ => .non
theorem me_str {i : Str} {j : Nat} {pos : Pos} : ME X Er (.Constant (.str i) j pos) (eC (.str i)) := me_c pe_str fun _ _ => .str i
/-- a module's constant -/
theorem me_glob {x : Str} {v : V} {d : D} {u : Value} {pos : Pos} (hg : Gl X x) (hm : X.mg x = some u) (r : RelV v u) (hr : ∀ F, Rep X.kw F d v) (hd : (x == ("__debug__" : Str)) = false := by decide) : ME X Er (.Name x pos) (eC d) :=
  PE.imp (pe_glob hg hm r hd) fun σ H Q ⟨F, m, G, S, ρ, w, r, h⟩ => res_ok w (hr _) h
def R2M (K : KW) (Er : ErT) (g : Vl → Vl → M Vl) : R2 := fun x y H Q => ∃ F m G S a b, Wd K F m G S H ∧ RepV K F m a x ∧ RepV K F m b y ∧ res K Er (rV K) F m G (g a b S) Q
def OpM (X : Cx) (Er : ErT) (f : Value → Value → Sem Value) (g : Vl → Vl → M Vl) : Prop := OpR X f (R2M X.kw Er g)
def eOp (g : Vl → Vl → M Vl) (f h : Env → M Vl) : Env → M Vl := fun ρ => bnd (f ρ) fun x => bnd (h ρ) fun y => g x y
theorem tOp_of {g : Vl → Vl → M Vl} {K : KW} {σ : L2.St} {H : Hp} {Q : VK} (hw : tE K Er (eOp g f h) σ H Q) : tOp (R2M K Er g) (tE K Er f) (tE K Er h) σ H Q := by
  obtain ⟨F, m, G, S, ρ, w, r, q⟩ := hw
  refine rd_mono (rd_bnd (A := rV K) w r q) fun x H1 ⟨F1, m1, S1, a1, e1, w1, r1, ra, q1⟩ => ?_
  refine rd_mono (rd_bnd (A := rV K) w1 r1 q1) fun y H2 ⟨F2, m2, S2, a2, e2, w2, r2, rb, q2⟩ => ?_
  exact ⟨F2, m2, G, S2, a1, a2, w2, ra.mono e2, rb, q2⟩
theorem me_op {op : Operator} {g : Vl → Vl → M Vl} (ho : OpM X Er (binaryOp op) g) (ha : ME X Er a f) (hb : ME X Er b h) : ME X Er (.BinOp a op b pos) (eOp g f h) := PE.imp (pe_op ho ha hb) fun _ _ _ => tOp_of
theorem me_cmp {op : CmpOp} {g : Vl → Vl → M Vl} (ho : OpM X Er (compareOp op) g) (ha : ME X Er a f) (hb : ME X Er b h) (hm : behindInMarks op b = false := by first | exact nomark _ | rfl) : ME X Er (.Compare a [op] [b] pos) (eOp g f h) := PE.imp (pe_cmpR ho ha hb hm) fun _ _ _ => tOp_of
def asB (x : Vl) : M Bool := match x with
  | .d (.bl b) => pur b
  | _ => stuck
def eTest (f : Env → M Vl) : Env → M Bool := fun ρ => bnd (f ρ) asB
theorem asB_of {K : KW} {F G H : Hp} {m : List Addr} {S : Sto} {x : Vl} {v : V} {Q : Bool → Hp → Prop} (w : Wd K F m G S H) (r : RepV K F m x v) (h : res K Er rB F m G (asB x S) Q) : ∃ k, v = .bl k ∧ Q k H := by
  unfold asB at h
  split at h
  · cases r
    exact ⟨_, rfl, res_ok w rfl h⟩
  · exact h.elim
theorem tTest_of {K : KW} {σ : L2.St} {H : Hp} {Q : Bool → Hp → Prop} (hw : tT K Er (eTest f) σ H Q) : tE K Er f σ H fun x H' => ∃ k, x = .bl k ∧ Q k H' := by
  obtain ⟨F, m, G, S, ρ, w, r, q⟩ := hw
  refine rd_mono (rd_bnd (A := rV K) w r q) fun x H1 ⟨F1, m1, S1, a1, e1, w1, r1, ra, q1⟩ => ?_
  exact asB_of w1 ra q1
theorem mt_cmp {op : CmpOp} {g : Vl → Vl → M Vl} (ho : OpM X Er (compareOp op) g) (ha : ME X Er a f) (hb : ME X Er b h) (hm : behindInMarks op b = false := by first | exact nomark _ | rfl) : MT X Er (.Compare a [op] [b] pos) (eTest (eOp g f h)) :=
  PT.imp (pt_cmpR ho ha hb hm) fun _ _ _ hw => tOp_of (tTest_of hw)
theorem mt_val {e : Expr} (he : ME X Er e f) (hp : ∀ whole, isTrue e X.env whole = (do let v ← whole; standAt e.pos; holding [v] (truthy v)) := by intro _; rfl) : MT X Er e (eTest f) := PT.imp (pt_val he hp) fun _ _ _ hw => tTest_of hw
/-- a < b < c -/
def eChain (g g' : Vl → Vl → M Vl) (fa fb fc : Env → M Vl) : Env → M Vl := fun ρ => bnd (fa ρ) fun x => bnd (fb ρ) fun y => bnd (g x y) fun z => bnd (asB z) fun k => match k with
  | true => bnd (fc ρ) fun z => g' y z
  | false => pur (.d (.bl false))
theorem bnd_bnd {α β γ : Type} (p : M α) (q : α → M β) (r : β → M γ) : bnd (bnd p q) r = bnd p fun a => bnd (q a) r := by
  funext S
  unfold bnd
  cases p S <;> rfl
theorem bnd_ret {α β : Type} (a : α) (q : α → M β) : bnd (pur a) q = q a := rfl
def RUM (K : KW) (Er : ErT) (g : Vl → M Vl) : V → Hp → VK → Prop := fun x H Q => ∃ F m G S a, Wd K F m G S H ∧ RepV K F m a x ∧ res K Er (rV K) F m G (g a S) Q
def eUn (g : Vl → M Vl) (f : Env → M Vl) : Env → M Vl := fun ρ => bnd (f ρ) g
theorem tUn_of {g : Vl → M Vl} {K : KW} {σ : L2.St} {H : Hp} {Q : VK} (hw : tE K Er (eUn g f) σ H Q) : tUn (RUM K Er g) (tE K Er f) σ H Q := by
  obtain ⟨F, m, G, S, ρ, w, r, q⟩ := hw
  refine rd_mono (rd_bnd (A := rV K) w r q) fun x H1 ⟨F1, m1, S1, a1, e1, w1, r1, ra, q1⟩ => ?_
  exact ⟨F1, m1, G, S1, a1, w1, ra, q1⟩
theorem me_un {op : UnaryOp} {g : Vl → M Vl} (ho : UnR X (unaryOp op) (RUM X.kw Er g)) (ha : ME X Er a f) : ME X Er (.UnaryOp op a pos) (eUn g f) := PE.imp (pe_un ho ha) fun _ _ _ => tUn_of
/-- as values, all but the last a bool -/
def eAnd (f h : Env → M Vl) : Env → M Vl := fun ρ => bnd (f ρ) fun x => bnd (asB x) fun k => match k with
  | true => h ρ
  | false => pur (.d (.bl false))
def eOr (f h : Env → M Vl) : Env → M Vl := fun ρ => bnd (f ρ) fun x => bnd (asB x) fun k => match k with
  | true => pur (.d (.bl true))
  | false => h ρ
def eNot (f : Env → M Vl) : Env → M Vl := fun ρ => bnd (f ρ) fun x => bnd (asB x) fun k => pur (.d (.bl (!k)))
/-- as tests -/
def bAnd (f h : Env → M Bool) : Env → M Bool := fun ρ => bnd (f ρ) fun k => match k with
  | true => h ρ
  | false => pur false
def bOr (f h : Env → M Bool) : Env → M Bool := fun ρ => bnd (f ρ) fun k => match k with
  | true => pur true
  | false => h ρ
def bNot (f : Env → M Bool) : Env → M Bool := fun ρ => bnd (f ρ) fun k => pur (!k)
abbrev MW (X : Cx) (Er : ErT) (e : Expr) (f : Env → M Bool) : Prop := PW X e (tT X.kw Er f)
theorem PW.imp {X : Cx} {e : Expr} {t t' : TT} (h : PW X e t) (i : ∀ σ H Q, t' σ H Q → t σ H Q) : PW X e t' := ⟨fun wh pins s σ H Q I q => h.run wh pins s σ H Q I (i σ H Q q)⟩
variable {p q : Env → M Bool}
theorem mw_or1 (ha : MT X Er a p) : MW X Er (.BoolOp .Or [a] pos) p := pw_or1 ha
theorem mw_or {rest : List Expr} (ha : MT X Er a p) (hb : MW X Er (.BoolOp .Or (b :: rest) pos) q) : MW X Er (.BoolOp .Or (a :: b :: rest) pos) (bOr p q) := PW.imp (pw_or ha hb) fun σ H Q ⟨F, m, G, S, ρ, w, r, z⟩ => by
  refine rd_mono (rd_bnd (A := rB) w r z) fun x H1 ⟨F1, m1, S1, k, e1, w1, r1, ra, q1⟩ => ?_
  subst ra
  cases k with
  | true => rw [if_pos rfl]; exact res_ok w1 rfl q1
  | false => rw [if_neg Bool.false_ne_true]; exact ⟨F1, m1, G, S1, ρ, w1, r1, q1⟩
theorem mt_w {e : Expr} (h : MW X Er e p) : MT X Er e p := PW.pt h
theorem mt_not (ha : MT X Er a p) : MT X Er (.UnaryOp .Not a pos) (bNot p) := PT.imp (pt_not ha) fun σ H Q ⟨F, m, G, S, ρ, w, r, z⟩ => by
  refine rd_mono (rd_bnd (A := rB) w r z) fun x H1 ⟨F1, m1, S1, k, e1, w1, r1, ra, q1⟩ => ?_
  subst ra
  exact res_ok w1 rfl q1
def eIf (p : Env → M Bool) (f h : Env → M Vl) : Env → M Vl := fun ρ => bnd (p ρ) fun k => match k with
  | true => f ρ
  | false => h ρ
theorem me_if (hc : MT X Er c p) (ha : ME X Er a f) (hb : ME X Er b h) : ME X Er (.IfExp c a b pos) (eIf p f h) := PE.imp (pe_ifExp hc ha hb) fun σ H Q ⟨F, m, G, S, ρ, w, r, z⟩ => by
  refine rd_mono (rd_bnd (A := rB) w r z) fun x H1 ⟨F1, m1, S1, k, e1, w1, r1, ra, q1⟩ => ?_
  subst ra
  cases k with
  | true => rw [if_pos rfl]; exact ⟨F1, m1, G, S1, ρ, w1, r1, q1⟩
  | false => rw [if_neg Bool.false_ne_true]; exact ⟨F1, m1, G, S1, ρ, w1, r1, q1⟩
def aNil : Env → M (List Vl) := fun _ => pur []
def aCons (f : Env → M Vl) (g : Env → M (List Vl)) : Env → M (List Vl) := fun ρ => bnd (f ρ) fun x => bnd (g ρ) fun xs => pur (x :: xs)
variable {es : List Expr} {fs : Env → M (List Vl)} {e : Expr}
theorem ma_nil : MA X Er [] aNil := PA.imp pa_nil fun σ H Q ⟨F, m, G, S, ρ, w, r, z⟩ => res_ok w .nil z
theorem ma_cons (ha : ME X Er e f) (hr : MA X Er es fs) (hs : starEach (e :: es) X.env = (false, eval e X.env) :: starEach es X.env := by rfl) : MA X Er (e :: es) (aCons f fs) := PA.imp (pa_cons ha hr hs) fun σ H Q ⟨F, m, G, S, ρ, w, r, z⟩ => by
  refine rd_mono (rd_bnd (A := rV X.kw) w r z) fun x H1 ⟨F1, m1, S1, a1, e1, w1, r1, ra, q1⟩ => ?_
  refine rd_mono (rd_bnd (A := rVs X.kw) w1 r1 q1) fun xs H2 ⟨F2, m2, S2, a2, e2, w2, r2, rb, q2⟩ => ?_
  exact res_ok w2 (.cons (ra.mono e2) rb) q2
/-- all of them data -/
def asDs : List Vl → Option (List D)
  | [] => some []
  | .d x :: r => match asDs r with
    | some ds => some (x :: ds)
    | none => none
  | .c _ :: _ => none
theorem asDs_rep {K : KW} {F : Hp} {m : List Addr} : ∀ {xs : List Vl} {vs : List V} {ds : List D}, RepVs K F m xs vs → asDs xs = some ds → Reps K F ds vs
  | _, _, _, .nil, h => by cases h; exact .nil
  | .d x :: xs, _, ds, .cons r t, h => by
    unfold asDs at h
    cases q : asDs xs with
    | none => rw [q] at h; cases h
    | some es => rw [q] at h; cases h; exact .cons r (asDs_rep t q)
  | .c n :: xs, _, ds, .cons r t, h => by cases h
def dTup (xs : List Vl) : M Vl := match asDs xs with
  | some ds => if ds.length ≤ 100000 then pur (.d (.tup ds)) else stuck
  | none => stuck
def dLst (xs : List Vl) : M Vl := match asDs xs with
  | some ds => if ds.length ≤ 100000 then pur (.d (.lst ds)) else stuck
  | none => stuck
def dCell (xs : List Vl) : M Vl := match asDs xs with
  | some ds => if ds.length ≤ 100000 then fun S => .ok (.c S.length) (S ++ [.lst ds]) else stuck
  | none => stuck
def eTup (fs : Env → M (List Vl)) : Env → M Vl := fun ρ => bnd (fs ρ) dTup
def eLst (fs : Env → M (List Vl)) : Env → M Vl := fun ρ => bnd (fs ρ) dLst
def eCell (fs : Env → M (List Vl)) : Env → M Vl := fun ρ => bnd (fs ρ) dCell
theorem sz5 {n : Nat} (h : n ≤ 100000) : n ≤ sizeLine := Nat.le_trans h (by decide)
theorem sz5' {n : Nat} (h : n < 100000) : n < sizeLine := Nat.lt_of_lt_of_le h (by decide)
theorem me_tup {k : Nat} (ha : MA X Er es fs) : ME X Er (.Tuple es k pos) (eTup fs) := PE.imp (pe_tup ha) fun σ H Q ⟨F, m, G, S, ρ, w, r, z⟩ => by
  refine rd_mono (rd_bnd (A := rVs X.kw) w r z) fun vs H1 ⟨F1, m1, S1, xs, e1, w1, r1, ra, q1⟩ => ?_
  unfold dTup at q1
  cases q : asDs xs with
  | none => rw [q] at q1; exact q1.elim
  | some ds =>
    rw [q] at q1
    have rs := asDs_rep ra q
    by_cases hl : ds.length ≤ 100000
    · simp only [if_pos hl] at q1
      refine ⟨by rw [← rs.length]; exact sz5 hl, fun p hp => ?_⟩
      exact q1 _ m1 _ _ (Ext.lay (w1.fresh hp)) (w1.lay hp _) (.tup (.inl (.inl upd_same)) (rs.mono (same_upd (w1.fresh hp))))
    · simp only [if_neg hl] at q1; exact q1.elim
theorem me_lst (ha : MA X Er es fs) : ME X Er (.List es pos) (eLst fs) := PE.imp (pe_lst ha) fun σ H Q ⟨F, m, G, S, ρ, w, r, z⟩ => by
  refine rd_mono (rd_bnd (A := rVs X.kw) w r z) fun vs H1 ⟨F1, m1, S1, xs, e1, w1, r1, ra, q1⟩ => ?_
  unfold dLst at q1
  cases q : asDs xs with
  | none => rw [q] at q1; exact q1.elim
  | some ds =>
    rw [q] at q1
    have rs := asDs_rep ra q
    by_cases hl : ds.length ≤ 100000
    · simp only [if_pos hl] at q1
      refine ⟨by rw [← rs.length]; exact sz5 hl, fun p hp => ?_⟩
      exact q1 _ m1 _ _ (Ext.lay (w1.fresh hp)) (w1.lay hp _) (.lst upd_same (rs.mono (same_upd (w1.fresh hp))))
    · simp only [if_neg hl] at q1; exact q1.elim
theorem me_cell (ha : MA X Er es fs) : ME X Er (.List es pos) (eCell fs) := PE.imp (pe_lst ha) fun σ H Q ⟨F, m, G, S, ρ, w, r, z⟩ => by
  refine rd_mono (rd_bnd (A := rVs X.kw) w r z) fun vs H1 ⟨F1, m1, S1, xs, e1, w1, r1, ra, q1⟩ => ?_
  unfold dCell at q1
  cases q : asDs xs with
  | none => rw [q] at q1; exact q1.elim
  | some ds =>
    rw [q] at q1
    have rs := asDs_rep ra q
    by_cases hl : ds.length ≤ 100000
    · simp only [if_pos hl] at q1
      refine ⟨by rw [← rs.length]; exact sz5 hl, fun p hp => ?_⟩
      refine q1 _ _ _ _ (Ext.cell p) (w1.cell hp (.lst rs)) ⟨p, ?_, rfl⟩
      rw [← w1.len]
      simp
    · simp only [if_neg hl] at q1; exact q1.elim
end
def RCM (K : KW) (Er : ErT) (g : List Vl → M Vl) : List V → Hp → VK → Prop := fun vs H Q => ∃ F m G S xs, Wd K F m G S H ∧ RepVs K F m xs vs ∧ res K Er (rV K) F m G (g xs S) Q
abbrev CallM (X : Cx) (Er : ErT) (f : Value) (g : List Vl → M Vl) : Prop := CallR X f (RCM X.kw Er g)
def eCB (g : List Vl → M Vl) (fs : Env → M (List Vl)) : Env → M Vl := fun ρ => bnd (fs ρ) g
theorem tCB_of {g : List Vl → M Vl} {fs : Env → M (List Vl)} {K : KW} {σ : L2.St} {H : Hp} {Q : VK} (hw : tE K Er (eCB g fs) σ H Q) : tCB (RCM K Er g) (tA K Er fs) σ H Q := by
  obtain ⟨F, m, G, S, ρ, w, r, z⟩ := hw
  refine rd_mono (rd_bnd (A := rVs K) w r z) fun vs H1 ⟨F1, m1, S1, xs, e1, w1, r1, ra, q1⟩ => ?_
  exact ⟨F1, m1, G, S1, xs, w1, ra, q1⟩
section
variable {X : Cx} {x : Str} {p pos : Pos} {e : Expr} {es : List Expr} {fs : Env → M (List Vl)} {id T : String} {g : List Vl → M Vl}
theorem me_callB (hc : CallM X Er (.builtin id) g) (hg : Gl X x) (hm : X.mg x = none) (hv : bootBuiltins x = some (.builtin id)) (ha : MA X Er (e :: es) fs) (hn : x ≠ "__name__" := by decide) (hdb : (x == ("__debug__" : Str)) = false := by decide)
    (he : Args1 X e es := by rfl) (hpl : NoStar X es pos := by rfl) : ME X Er (.Call (.Name x p) (e :: es) [] pos) (eCB g fs) :=
  PE.imp (pe_callB hc hg hm hv ha hn hdb he hpl) fun _ _ _ => tCB_of
theorem me_callTy (hc : CallM X Er (.type T) g) (hg : Gl X x) (hm : X.mg x = none) (hv : bootBuiltins x = some (.type T)) (ha : MA X Er (e :: es) fs) (hn : x ≠ "__name__" := by decide) (hdb : (x == ("__debug__" : Str)) = false := by decide)
    (he : Args1 X e es := by rfl) (hpl : NoStar X es pos := by rfl) : ME X Er (.Call (.Name x p) (e :: es) [] pos) (eCB g fs) :=
  PE.imp (pe_callTy hc hg hm hv ha hn hdb he hpl) fun _ _ _ => tCB_of
end
/-- a def's promise by its meaning -/
def spM (K : KW) (n : Nat) (φ : List Vl → M Vl) : Sp := fun vs H Q E => vs.length = n ∧ ∃ F m G S xs, Wd K F m G S H ∧ RepVs K F m xs vs ∧ res K (erE K E) (rV K) F m G (φ xs S) Q
/-- what may leave the context -/
structure ErOk (X : Cx) (Er : ErT) (E : XK) : Prop where
  tk : Takes X fun c d _ H => E c d H
  imp : ∀ (x : Exn) (F H : Hp), Er x F H → erE X.kw E x F H
theorem ErOk.pass {X : Cx} {Er : ErT} {E : XK} (h : ErOk X Er E) : Passes (CX X.prog X.w) X E := passes_call h.tk fun _ _ _ _ q => q
theorem erOk0 {X : Cx} : ErOk X er0 fun _ _ _ => False := ⟨fun u s' ⟨_, _, _, _, _, _, _, _, _, _, _, _, _, _, _, _, w⟩ => w.elim, fun _ _ _ h => h.elim⟩
theorem res_imp {α β : Type} {K : KW} {Er Er' : ErT} {A : Hp → List Addr → α → β → Prop} {F G : Hp} {m : List Addr} {r : R α} {Q : β → Hp → Prop} (i : ∀ x F H, Er x F H → Er' x F H) (h : res K Er A F m G r Q) : res K Er' A F m G r Q := by
  cases r with
  | ok a S' => exact h
  | err x S' => exact fun F' m' H' e w => i _ _ _ (h F' m' H' e w)
  | no => exact h
/-- nothing may be raised here -/
def noE {α : Type} (p : M α) : M α := fun S => match p S with
  | .ok a S' => .ok a S'
  | _ => .no
theorem noE_pur {α : Type} (a : α) : noE (pur a) = pur a := rfl
def eCall (φ : List Vl → M Vl) (fs : Env → M (List Vl)) : Env → M Vl := fun ρ => bnd (fs ρ) φ
theorem tCall_of {n : Nat} {φ : List Vl → M Vl} {fs : Env → M (List Vl)} {K : KW} {E : XK} {σ : L2.St} {H : Hp} {Q : VK} (hi : ∀ (x : Exn) (F H : Hp), Er x F H → erE K E x F H) (hl : ∀ ρ S xs S', fs ρ S = .ok xs S' → xs.length = n) (hw : tE K Er (eCall φ fs) σ H Q) : tCallG n (spM K n φ) E (tA K Er fs) σ H Q := by
  obtain ⟨F, m, G, S, ρ, w, r, z⟩ := hw
  unfold tCallG
  refine ⟨F, m, G, S, ρ, w, r, ?_⟩
  unfold eCall bnd at z
  cases q : fs ρ S with
  | err => rw [q] at z; exact z
  | no => rw [q] at z; exact z
  | ok xs S1 =>
    rw [q] at z
    intro F1 m1 H1 vs e1 w1 ra
    have l : vs.length = n := by rw [← ra.length]; exact hl ρ S xs S1 q
    exact ⟨l, l, F1, m1, G, S1, xs, w1, ra, res_imp hi (res_ext e1 z)⟩
/-- a list of arguments of a known length -/
structure Ln (fs : Env → M (List Vl)) (n : Nat) : Prop where
  ln : ∀ ρ S xs S', fs ρ S = .ok xs S' → xs.length = n
theorem ln_nil : Ln aNil 0 := ⟨fun ρ S xs S' h => by cases h; rfl⟩
theorem ln_cons {f : Env → M Vl} {fs : Env → M (List Vl)} {n : Nat} (h : Ln fs n) : Ln (aCons f fs) (n + 1) := ⟨fun ρ S xs S' q => by
  unfold aCons bnd at q
  cases e : f ρ S with
  | err => rw [e] at q; cases q
  | no => rw [e] at q; cases q
  | ok x S1 =>
    rw [e] at q
    simp only [] at q
    cases e2 : fs ρ S1 with
    | err => rw [e2] at q; cases q
    | no => rw [e2] at q; cases q
    | ok ys S2 =>
      rw [e2] at q
      cases q
      exact congrArg (· + 1) (h.ln ρ S1 ys _ e2)⟩
section
variable {X : Cx} {x : Str} {p pos : Pos} {e : Expr} {es : List Expr} {fs : Env → M (List Vl)} {k n : Nat} {f : Addr} {φ : List Vl → M Vl}
theorem me_call (G : FnG X.prog X.w X.kw X.mg X.base (CX X.prog X.w) k n f (spM X.kw n φ)) (eo : ErOk X Er E) (hr : Rm k X.A) (hg : Gl X x) (hm : X.mg x = some (.ref f)) (hk : PySem.W.keepIn X.kw (.ref f) = true) (ha : MA X Er (e :: es) fs) (hl : Ln fs n)
    (hdb : (x == ("__debug__" : Str)) = false := by decide) (he : Args1 X e es := by rfl) (hpl : NoStar X es pos := by rfl) :
    ME X Er (.Call (.Name x p) (e :: es) [] pos) (eCall φ fs) := PE.imp (pg_call (E := E) G hr hg hm hk eo.pass ha hdb he hpl) fun _ _ _ => tCall_of eo.imp hl.ln
end
end Dz
namespace Dz
open PySem PySem.Spec PyProof.Rows L2
section
variable {X : Cx} {st : Stmt} {rest : List Stmt} {s t : Env → M Out} {e : Expr} {f : Env → M Vl} {p : Env → M Bool} {pos : Pos}
def sNext : Env → M Out := fun ρ => pur (.nx ρ)
def sSeq (s t : Env → M Out) : Env → M Out := fun ρ => bnd (s ρ) fun o => match o with
  | .nx ρ' => t ρ'
  | o => pur o
theorem ms_nil : MSs X Er [] sNext := PSs.imp pss_nil fun D σ H ⟨F, m, G, S, ρ, w, r, z⟩ => z F m H (Ext.refl _ _) w σ r
theorem ms_cons (h1 : MS X Er st s) (h2 : MSs X Er rest t) : MSs X Er (st :: rest) (sSeq s t) := PSs.imp (pss_cons h1 h2) fun D σ H ⟨F, m, G, S, ρ, w, r, z⟩ => by
  refine ⟨F, m, G, S, ρ, w, r, ?_⟩
  unfold sSeq bnd at z
  cases q : s ρ S with
  | err => rw [q] at z; exact z
  | no => rw [q] at z; exact z
  | ok o S1 =>
    rw [q] at z
    intro F1 m1 H1 e1 w1
    cases o with
    | nx ρ1 => exact fun σ1 r1 => ⟨F1, m1, G, S1, ρ1, w1, r1, resS_ext e1 z⟩
    | rt x => exact fun v rv => z F1 m1 H1 e1 w1 v rv
    | bk ρ1 => exact fun v rv => z F1 m1 H1 e1 w1 v rv
    | ct ρ1 => exact fun v rv => z F1 m1 H1 e1 w1 v rv
theorem ms_one (h1 : MS X Er st s) : MSs X Er [st] s := pss_one h1
def sRet (f : Env → M Vl) : Env → M Out := fun ρ => bnd (f ρ) fun x => pur (.rt x)
theorem ms_ret (h : ME X Er e f) : MS X Er (.Return (some e) pos) (sRet f) := PS.imp (ps_ret h) fun D σ H ⟨F, m, G, S, ρ, w, r, z⟩ => by
  refine rd_mono (rd_bndS (A := rV X.kw) w r z) fun x H1 ⟨F1, m1, S1, a1, e1, w1, r1, ra, q1⟩ => ?_
  exact q1 F1 m1 H1 (Ext.refl _ _) w1 x ra
def sIf (p : Env → M Bool) (s t : Env → M Out) : Env → M Out := fun ρ => bnd (p ρ) fun k => match k with
  | true => s ρ
  | false => t ρ
theorem ms_if {c : Expr} {a b : List Stmt} (hc : MT X Er c p) (ha : MSs X Er a s) (hb : MSs X Er b t) : MS X Er (.If c a b pos) (sIf p s t) := PS.imp (ps_if hc ha hb) fun D σ H ⟨F, m, G, S, ρ, w, r, z⟩ => by
  refine rd_mono (rd_bndS (A := rB) w r z) fun x H1 ⟨F1, m1, S1, k, e1, w1, r1, ra, q1⟩ => ?_
  subst ra
  cases k with
  | true => rw [if_pos rfl]; exact ⟨F1, m1, G, S1, ρ, w1, r1, q1⟩
  | false => rw [if_neg Bool.false_ne_true]; exact ⟨F1, m1, G, S1, ρ, w1, r1, q1⟩
def sSet (i : Nat) (f : Env → M Vl) : Env → M Out := fun ρ => bnd (f ρ) fun x => pur (.nx (ρ.set i (some x)))
theorem ms_set {i : Nat} {x : Str} {pos' : Pos} (hN : X.N.Nodup) (hi : X.N[i]? = some x) (hx : Loc X.env.scope x) (he : ME X Er e f) (hs : swapsWith e (some (.Name x pos')) pos.line X.env = pure false := by rfl) (hf : X.fn x = true ∨ X.env.scope.names.lookup x = some .local := by first | exact .inl rfl | exact .inr rfl | assumption) :
    MS X Er (.Assign [.Name x pos'] e pos) (sSet i f) := PS.imp (ps_set hN hi hx he hs hf) fun D σ H ⟨F, m, G, S, ρ, w, r, z⟩ => by
  refine rd_mono (rd_bndS (A := rV X.kw) w r z) fun v H1 ⟨F1, m1, S1, a1, e1, w1, r1, ra, q1⟩ => ?_
  exact q1 F1 m1 H1 (Ext.refl _ _) w1 _ (r1.set ra i)
def sDrop (f : Env → M Vl) : Env → M Out := fun ρ => bnd (f ρ) fun _ => pur (.nx ρ)
def setC (o i v : Vl) : M Unit := fun S => match o, i, v with
  | .c n, .d (.int k), .d y => match S[n]? with
    | some (.lst xs) => match ixN xs.length k with
      | some j => .ok () (S.set n (.lst (xs.set j y)))
      | none => .no
    | _ => .no
  | _, _, _ => .no
theorem setC_ok {o i v : Vl} {S S' : Sto} {u : Unit} (h : setC o i v S = .ok u S') : ∃ n k y xs j, o = .c n ∧ i = .d (.int k) ∧ v = .d y ∧ S[n]? = some (.lst xs) ∧ ixN xs.length k = some j ∧ S' = S.set n (.lst (xs.set j y)) := by
  unfold setC at h
  split at h
  · rename_i n k y
    split at h
    · rename_i xs hx
      split at h
      · rename_i j hj
        cases h
        exact ⟨n, k, y, xs, j, rfl, rfl, rfl, hx, hj, rfl⟩
      · cases h
    · cases h
  · cases h
def sPut (fo fi f : Env → M Vl) : Env → M Out := fun ρ => bnd (f ρ) fun v => bnd (fo ρ) fun o => bnd (fi ρ) fun i => bnd (setC o i v) fun _ => pur (.nx ρ)
theorem ms_put {o i : Expr} {fo fi : Env → M Vl} {p' : Pos} (he : ME X Er e f) (ho : ME X Er o fo) (hi : ME X Er i fi)
    (ha : ∀ v, assign (.Subscript o i p') X.env v = (do
      let ov ← holding [v] (eval o X.env)
      let iv ← holding [v, ov] (eval i X.env)
      standAt p'
      holding [v, ov, iv] (setItem ov iv v)
      release [v, ov, iv] []) := by intro _; rfl)
    (hs : swapsWithSole [.Subscript o i p'] e pos.line X.env = pure false := by rfl) (hw : swappedStores [.Subscript o i p'] e X.env = pure none := by rfl)
    (h1 : (assignEach [.Subscript o i p'] X.env).map (·.2) = [assign (.Subscript o i p') X.env] := by rfl) : MS X Er (.Assign [.Subscript o i p'] e pos) (sPut fo fi f) :=
  PS.imp (ps_asg he (pg_sub ho hi set_list ha) hs hw h1) fun D σ H ⟨F, m, G, S, ρ, w, r, z⟩ => by
  refine rd_mono (rd_bndS (A := rV X.kw) w r z) fun v H1 ⟨F1, m1, S1, a1, e1, w1, r1, ra, q1⟩ => ?_
  refine rd_mono (rd_bndS (A := rV X.kw) w1 r1 q1) fun ov H2 ⟨F2, m2, S2, a2, e2, w2, r2, rb, q2⟩ => ?_
  refine rd_mono (rd_bndS (A := rV X.kw) w2 r2 q2) fun iv H3 ⟨F3, m3, S3, a3, e3, w3, r3, rc, q3⟩ => ?_
  have rb := rb.mono e3
  have ra := ra.mono (e2.trans e3)
  unfold bnd at q3
  cases q : setC a2 a3 a1 S3 with
  | err => exfalso; unfold setC at q; repeat (first | (split at q) | cases q)
  | no => rw [q] at q3; exact q3.elim
  | ok u S4 =>
    rw [q] at q3
    obtain ⟨n, k, y, xs, j, rfl, rfl, rfl, hx, hj, rfl⟩ := setC_ok q
    obtain ⟨a, hm, rfl⟩ := rb
    cases rc
    obtain ⟨oo, ho, rr⟩ := w3.cells n a _ hm hx
    cases rr with
    | lst rs =>
      refine ⟨a, _, k, j, rfl, rfl, ho, by rw [← rs.length]; exact hj, ?_⟩
      exact q3 F3 m3 _ (Ext.refl _ _) (w3.write hm (.lst (rs.set ra j)) (fun b hb => by rw [hx] at hb; cases hb; simp)) σ r3
end
/-- J yields the data ds in a row, wherever F stands -/
structure Walk (K : KW) (F : Hp) (J : It) (ds : List D) : Prop where
  go : ∀ (i : Nat) (H : Hp), Same F H → i < ds.length → J.go i H
  yld : ∀ (i : Nat) (H : Hp) (x : V) (H' : Hp), Same F H → i < ds.length → J.yld i H x H' → ∃ d, ds[i]? = some d ∧ ((H' = H ∧ Rep K F d x) ∨ ∃ p o, H p = none ∧ H' = upd H p o ∧ plB o = true ∧ Rep K (upd F p o) d x)
  stop : ∀ (i : Nat) (H : Hp), Same F H → ds.length ≤ i → J.stop i H
theorem same_both {F F1 : Hp} {p : Addr} {o : HO} (s : Same F F1) : Same (upd F p o) (upd F1 p o) := fun b x e => by
  by_cases hb : b = p
  · subst hb; rw [upd_same] at e ⊢; exact e
  · rw [upd_ne hb] at e ⊢; exact s b x e
/-- the next item, and the world behind it -/
theorem Walk.nxt {K : KW} {F0 F1 G H1 H' : Hp} {m0 m1 : List Addr} {S1 : Sto} {J : It} {ds : List D} {i : Nat} {x : V} (wk : Walk K F0 J ds) (e1 : Ext F0 F1 m0 m1) (w1 : Wd K F1 m1 G S1 H1) (hlt : i < ds.length) (y : J.yld i H1 x H') :
    ∃ F2, Ext F1 F2 m1 m1 ∧ Wd K F2 m1 G S1 H' ∧ Rep K F2 ds[i] x := by
  obtain ⟨d, hd, h⟩ := wk.yld i H1 x H' (e1.fro.trans w1.sub) hlt y
  have ed : ds[i] = d := by
    rw [List.getElem?_eq_getElem hlt] at hd
    exact Option.some.inj hd
  rw [ed]
  rcases h with ⟨rfl, r⟩ | ⟨p, o, hp, rfl, pl, r⟩
  · exact ⟨F1, Ext.refl _ _, w1, r.mono e1.fro⟩
  · exact ⟨upd F1 p o, Ext.lay (w1.fresh hp), w1.lay hp o pl, r.mono (same_both e1.fro)⟩
def tI (K : KW) (Er : ErT) (f : Env → M (List D)) : TI := fun σ H Rr => ∃ F m G S ρ, Wd K F m G S H ∧ RepE K F m ρ σ ∧ res K Er (fun F m ds J => Walk K F J ds) F m G (f ρ S) Rr
abbrev MI (X : Cx) (Er : ErT) (tg iter : Expr) (f : Env → M (List D)) : Prop := PI X tg iter (tI X.kw Er f)
theorem PI.imp {X : Cx} {tg e : Expr} {t t' : TI} (h : PI X tg e t) (i : ∀ σ H Q, t' σ H Q → t σ H Q) : PI X tg e t' := ⟨fun pins s σ H Q I q => h.run pins s σ H Q I (i σ H Q q)⟩
section
variable {X : Cx} {tg e : Expr} {f : Env → M Vl}
/-- lists and tuples that are data -/
def itL (x : Vl) : M (List D) := match x with
  | .d (.lst ds) => pur ds
  | .d (.scr ns) => pur (ns.map D.int)
  | _ => stuck
def itT (x : Vl) : M (List D) := match x with
  | .d (.tup ds) => pur ds
  | _ => stuck
def iOf (g : Vl → M (List D)) (f : Env → M Vl) : Env → M (List D) := fun ρ => bnd (f ρ) g
theorem seq_walk {K : KW} {F : Hp} {a : Addr} {vs : List V} {ds : List D} (h : SqL K F a vs) (r : Reps K F ds vs) : Walk K F (Itl K a) ds where
  go := fun i H s hi => by
    obtain ⟨v, hv, _⟩ := r.get (i := i) (d := ds[i]) (List.getElem?_eq_getElem hi)
    exact ⟨vs, v, s.seq h, hv⟩
  yld := fun i H x H' s hi y => by
    obtain ⟨rfl, y⟩ := y
    obtain ⟨d, hd, rr⟩ := r.get' (y vs (s.seq h))
    exact ⟨d, hd, .inl ⟨rfl, rr⟩⟩
  stop := fun i H s hi => ⟨vs, s.seq h, by rw [← r.length]; exact hi⟩
theorem tup_walk {K : KW} {F : Hp} {a : Addr} {vs : List V} {ds : List D} (h : SqT K F a vs) (r : Reps K F ds vs) : Walk K F (Itt K a) ds where
  go := fun i H s hi => by
    obtain ⟨v, hv, _⟩ := r.get (i := i) (d := ds[i]) (List.getElem?_eq_getElem hi)
    exact ⟨vs, v, sqT_mono s h, hv⟩
  yld := fun i H x H' s hi y => by
    obtain ⟨rfl, y⟩ := y
    obtain ⟨d, hd, rr⟩ := r.get' (y vs (sqT_mono s h))
    exact ⟨d, hd, .inl ⟨rfl, rr⟩⟩
  stop := fun i H s hi => ⟨vs, sqT_mono s h, by rw [← r.length]; exact hi⟩
theorem mi_list (h : ME X Er e f) : MI X Er tg e (iOf itL f) := PI.imp (pi_list h) fun σ H Rr ⟨F, m, G, S, ρ, w, r, z⟩ => by
  refine rd_mono (rd_bnd (A := rV X.kw) (B := fun F m ds J => Walk X.kw F J ds) w r z) fun v H1 ⟨F1, m1, S1, a1, e1, w1, r1, ra, q1⟩ => ?_
  unfold itL at q1
  split at q1
  · cases ra with
    | lst ha rs => exact ⟨_, rfl, ⟨_, w1.sub.seq (SqL.of ha)⟩, res_ok (A := fun F m ds J => Walk X.kw F J ds) w1 (seq_walk (SqL.of ha) rs) q1⟩
  · cases ra with
    | scr ha => exact ⟨_, rfl, ⟨_, w1.sub.seq ha⟩, res_ok (A := fun F m ds J => Walk X.kw F J ds) w1 (seq_walk ha (reps_ints _ _ _)) q1⟩
  · exact q1.elim
theorem mi_tup (h : ME X Er e f) : MI X Er tg e (iOf itT f) := PI.imp (pi_tup h) fun σ H Rr ⟨F, m, G, S, ρ, w, r, z⟩ => by
  refine rd_mono (rd_bnd (A := rV X.kw) (B := fun F m ds J => Walk X.kw F J ds) w r z) fun v H1 ⟨F1, m1, S1, a1, e1, w1, r1, ra, q1⟩ => ?_
  unfold itT at q1
  split at q1
  · cases ra with
    | tup ha rs => exact ⟨_, rfl, ⟨_, sqT_mono w1.sub ha⟩, res_ok (A := fun F m ds J => Walk X.kw F J ds) w1 (tup_walk ha rs) q1⟩
  · exact q1.elim
/-- a text's signs -/
def signs (z : Str) : List D := z.cps.toList.map fun c => D.str ⟨#[c]⟩
def itS (x : Vl) : M (List D) := match x with
  | .d (.str z) => pur (signs z)
  | _ => stuck
theorem str_walk {K : KW} {F : Hp} (z : Str) : Walk K F (Its z) (signs z) where
  go := fun i H s hi => by
    unfold signs at hi
    rw [List.length_map, Array.length_toList] at hi
    exact hi
  yld := fun i H x H' s hi y => by
    obtain ⟨rfl, c, hc, rfl⟩ := y
    refine ⟨.str ⟨#[c]⟩, ?_, .inl ⟨rfl, .str _⟩⟩
    unfold signs
    rw [List.getElem?_map, Array.getElem?_toList, hc]
    rfl
  stop := fun i H s hi => by
    unfold signs at hi
    rw [List.length_map, Array.length_toList] at hi
    exact hi
theorem mi_str (h : ME X Er e f) : MI X Er tg e (iOf itS f) := PI.imp (pi_str h) fun σ H Rr ⟨F, m, G, S, ρ, w, r, z⟩ => by
  refine rd_mono (rd_bnd (A := rV X.kw) (B := fun F m ds J => Walk X.kw F J ds) w r z) fun v H1 ⟨F1, m1, S1, a1, e1, w1, r1, ra, q1⟩ => ?_
  unfold itS at q1
  split at q1
  · cases ra
    exact ⟨_, rfl, res_ok (A := fun F m ds J => Walk X.kw F J ds) w1 (str_walk _) q1⟩
  · exact q1.elim
/-- ranges -/
def dInts (lo : Int) (n : Nat) : List D := (List.range n).map fun (i : Nat) => D.int (lo + (i : Int))
def itR (xs : List Vl) : M (List D) := match xs with
  | [.d (.int j)] => if -(2 ^ 62) ≤ j ∧ j < 2 ^ 62 then pur (dInts 0 j.toNat) else stuck
  | [.d (.int i), .d (.int j)] => if (-(2 ^ 62) ≤ i ∧ i < 2 ^ 62) ∧ -(2 ^ 62) ≤ j ∧ j < 2 ^ 62 then pur (dInts i (j - i).toNat) else stuck
  | _ => stuck
def iRg (fs : Env → M (List Vl)) : Env → M (List D) := fun ρ => bnd (fs ρ) itR
theorem ints_walk {K : KW} {F : Hp} (lo : Int) (n : Nat) : Walk K F (Itr lo n) (dInts lo n) where
  go := fun i H s hi => by
    unfold dInts at hi
    rw [List.length_map, List.length_range] at hi
    exact hi
  yld := fun i H x H' s hi y => by
    obtain ⟨rfl, rfl⟩ := y
    unfold dInts at hi ⊢
    rw [List.length_map, List.length_range] at hi
    refine ⟨.int (lo + (i : Int)), ?_, .inl ⟨rfl, .int _⟩⟩
    rw [List.getElem?_map, List.getElem?_range hi]
    rfl
  stop := fun i H s hi => by
    unfold dInts at hi
    rw [List.length_map, List.length_range] at hi
    exact hi
theorem mi_range1 {a : Expr} {fs : Env → M (List Vl)} {p pos : Pos} (hg : Gl X "range") (hm : X.mg "range" = none) (ha : MA X Er [a] fs) (hl : Ln fs 1) (hs : starEach [a] X.env = [(false, eval a X.env)] := by rfl) : MI X Er tg (.Call (.Name "range" p) [a] [] pos) (iRg fs) :=
  PI.imp (pi_range1 hg hm ha hs) fun σ H Rr ⟨F, m, G, S, ρ, w, r, z⟩ => by
  refine ⟨F, m, G, S, ρ, w, r, ?_⟩
  unfold iRg bnd at z
  cases q : fs ρ S with
  | err => rw [q] at z; exact z
  | no => rw [q] at z; exact z.elim
  | ok xs S1 =>
    rw [q] at z
    have l1 := hl.ln ρ S xs S1 q
    intro F1 m1 H1 vs e1 w1 ra
    replace z : res X.kw Er (fun F m ds J => Walk X.kw F J ds) F m G (itR xs S1) Rr := z
    unfold itR at z
    split at z
    · rename_i j
      cases ra with
      | cons r1 r2 =>
        cases r2
        cases r1
        split at z
        · rename_i hj
          exact ⟨j, rfl, hj.1, hj.2, res_ok (A := fun F m ds J => Walk X.kw F J ds) w1 (ints_walk 0 j.toNat) (res_ext e1 z)⟩
        · exact z.elim
    · cases l1
    · exact z.elim
theorem mi_range2 {a b : Expr} {fs : Env → M (List Vl)} {p pos : Pos} (hg : Gl X "range") (hm : X.mg "range" = none) (ha : MA X Er [a, b] fs) (hl : Ln fs 2) (hs : starEach [a, b] X.env = [(false, eval a X.env), (false, eval b X.env)] := by rfl) (hs2 : starEach [b] X.env = [(false, eval b X.env)] := by rfl) :
    MI X Er tg (.Call (.Name "range" p) [a, b] [] pos) (iRg fs) :=
  PI.imp (pi_range2 hg hm ha hs hs2) fun σ H Rr ⟨F, m, G, S, ρ, w, r, z⟩ => by
  refine ⟨F, m, G, S, ρ, w, r, ?_⟩
  unfold iRg bnd at z
  cases q : fs ρ S with
  | err => rw [q] at z; exact z
  | no => rw [q] at z; exact z.elim
  | ok xs S1 =>
    rw [q] at z
    have l1 := hl.ln ρ S xs S1 q
    intro F1 m1 H1 vs e1 w1 ra
    replace z : res X.kw Er (fun F m ds J => Walk X.kw F J ds) F m G (itR xs S1) Rr := z
    unfold itR at z
    split at z
    · cases l1
    · rename_i i j
      cases ra with
      | cons r1 r2 =>
        cases r2 with
        | cons r2 r3 =>
          cases r3
          cases r1
          cases r2
          split at z
          · rename_i hj
            exact ⟨i, j, rfl, ⟨hj.1.1, hj.1.2, hj.2.1, hj.2.2⟩, res_ok (A := fun F m ds J => Walk X.kw F J ds) w1 (ints_walk i (j - i).toNat) (res_ext e1 z)⟩
          · exact z.elim
    · exact z.elim
end
inductive Tgt where
  | one (i : Nat) | tup (is : List Nat)
def gSlots : List Nat → TGs
  | [] => gNil
  | i :: is => gCons (gName i) (gSlots is)
def Tgt.tg (K : KW) : Tgt → TG
  | .one i => gName i
  | .tup is => gTup K is.length (gSlots is)
def Tgt.slots : Tgt → List Nat
  | .one i => [i]
  | .tup is => is
def setAll : List Nat → List D → Env → Env
  | i :: is, d :: ds, ρ => setAll is ds (ρ.set i (some (.d d)))
  | _, _, ρ => ρ
def gSet (t : Tgt) (d : D) (ρ : Env) : M Env := match t, d with
  | .one i, d => pur (ρ.set i (some (.d d)))
  | .tup is, .tup ds => if ds.length = is.length then pur (setAll is ds ρ) else stuck
  | .tup _, _ => stuck
abbrev MG (X : Cx) (tg : Expr) (t : Tgt) : Prop := PG X tg (t.tg X.kw)
theorem wipe_set {σ : L2.St} {i : Nat} {x : Option V} : ∀ {vs : List Nat}, i ∈ vs → wipe (σ.set i x) vs = wipe σ vs
  | v :: vs, h => by
    unfold wipe
    by_cases hv : i = v
    · subst hv
      by_cases hm : i ∈ vs
      · rw [wipe_set hm]
      · clear h
        induction vs with
        | nil => simp [wipe]
        | cons u us ih =>
          have hu : i ≠ u := fun z => hm (by simp [z])
          have hs : i ∉ us := fun z => hm (by simp [z])
          unfold wipe
          rw [List.set_comm _ _ (fun z => hu z.symm), ih hs, List.set_comm _ _ hu]
    · have hm : i ∈ vs := by
        rcases List.mem_cons.mp h with z | z
        · exact absurd z hv
        · exact z
      rw [wipe_set hm]
section
variable {K : KW} {F G H : Hp} {m : List Addr} {S : Sto}
theorem slots_of {vs0 : List Nat} : ∀ {is : List Nat} {ds : List D} {vs : List V} {ρ : Env} {σ : L2.St} {Q : L2.St → Hp → Prop}, Reps K F ds vs → ds.length = is.length → RepE K F m ρ σ →
    (∀ σ2, RepE K F m (setAll is ds ρ) σ2 → (∀ ws : List Nat, (∀ i ∈ is, i ∈ ws) → wipe σ2 ws = wipe σ ws) → Q σ2 H) → gSlots is vs σ H Q
  | [], _, _, ρ, σ, Q, .nil, _, r, h => ⟨rfl, h σ (by unfold setAll; exact r) fun _ _ => rfl⟩
  | i :: is, _, _, ρ, σ, Q, .cons (d := d) (v := v) rd rs, hl, r, h => by
    refine ⟨v, _, rfl, ?_⟩
    refine slots_of (vs0 := vs0) rs (by simpa using hl) (RepE.set r (x := .d d) rd i) fun σ2 r2 hw => h σ2 (by unfold setAll; exact r2) fun ws hs => ?_
    rw [hw ws fun j hj => hs j (List.mem_cons_of_mem _ hj), wipe_set (hs i List.mem_cons_self)]
theorem tgt_of {t : Tgt} {d : D} {v : V} {ρ ρ1 : Env} {σ : L2.St} {S1 : Sto} {Q : L2.St → Hp → Prop} (w : Wd K F m G S H) (rd : Rep K F d v) (r : RepE K F m ρ σ) (hg : gSet t d ρ S = .ok ρ1 S1)
    (h : ∀ σ2, RepE K F m ρ1 σ2 → (∀ ws : List Nat, (∀ i ∈ t.slots, i ∈ ws) → wipe σ2 ws = wipe σ ws) → S1 = S → Q σ2 H) : t.tg K v σ H Q := by
  unfold gSet at hg
  split at hg
  · cases hg
    exact h _ (RepE.set r (x := .d d) rd _) (fun ws hs => wipe_set (hs _ (by simp [Tgt.slots]))) rfl
  · rename_i is ds
    split at hg
    · rename_i hl
      cases hg
      cases rd with
      | tup ht rs => exact ⟨_, _, rfl, sqT_mono w.sub ht, by rw [← rs.length]; exact hl, slots_of (vs0 := []) rs hl r fun σ2 r2 hw => h σ2 r2 hw rfl⟩
    · cases hg
  · cases hg
theorem gSet_no {t : Tgt} {d : D} {ρ : Env} {S : Sto} : (∃ ρ1, gSet t d ρ S = .ok ρ1 S) ∨ gSet t d ρ S = .no := by
  unfold gSet
  split
  · exact .inl ⟨_, rfl⟩
  · split
    · exact .inl ⟨_, rfl⟩
    · exact .inr rfl
  · exact .inr rfl
end
section
variable {X : Cx} {pos : Pos}
theorem mg_name {i : Nat} {x : Str} (hN : X.N.Nodup) (hi : X.N[i]? = some x) (hx : Loc X.env.scope x) (hf : X.fn x = true ∨ X.env.scope.names.lookup x = some .local := by first | exact .inl rfl | exact .inr rfl | assumption) : MG X (.Name x pos) (.one i) := pg_name hN hi hx hf
end
def forL (t : Tgt) (s : Env → M Out) : List D → Env → M Out
  | [], ρ => pur (.nx ρ)
  | d :: ds, ρ => bnd (gSet t d ρ) fun ρ1 => bnd (s ρ1) fun o => match o with
    | .nx ρ2 => forL t s ds ρ2
    | .ct ρ2 => forL t s ds ρ2
    | .bk ρ2 => pur (.nx ρ2)
    | .rt x => pur (.rt x)
def sFor (f : Env → M (List D)) (t : Tgt) (s : Env → M Out) : Env → M Out := fun ρ => bnd (f ρ) fun ds => forL t s ds ρ
section
variable {X : Cx} {tg iter : Expr} {body : List Stmt} {pos : Pos} {f : Env → M (List D)} {t : Tgt} {s : Env → M Out}
/-- what a loop asks of its iterator: from a walk of the data -/
theorem for_go {K : KW} {Er : ErT} {D : Ends} {F0 G H0 : Hp} {m0 : List Addr} {S0 : Sto} {ρ : Env} {σ : L2.St} {J : It} {ds : List Dz.D} (w0 : Wd K F0 m0 G S0 H0) (r : RepE K F0 m0 ρ σ) (wk : Walk K F0 J ds) (z : resS K Er D F0 m0 G (forL t s ds ρ S0)) :
    ∃ W : Nat → Nat → L2.St → Hp → Prop, (∃ m, W 0 m σ H0) ∧ ∀ i m σ H, W i m σ H →
      (J.stop i H ∧ D.nx σ H) ∨ (J.go i H ∧ ∃ N : L2.St → Hp → Prop, (∀ σ' H', N σ' H' → ∃ m', m' < m ∧ W (i + 1) m' σ' H') ∧ ∀ x H', J.yld i H x H' → t.tg K x σ H' fun σ2 H2 => tS K Er s { D with nx := N, ct := N, bk := D.nx } σ2 H2) := by
  -- the invariant: from the turn i on, the rest of the data runs to what is wanted
  refine ⟨fun i k σ1 H1 => k = ds.length - i ∧ i ≤ ds.length ∧ ∃ F1 m1 S1 ρ1, Ext F0 F1 m0 m1 ∧ Wd K F1 m1 G S1 H1 ∧ RepE K F1 m1 ρ1 σ1 ∧ resS K Er D F1 m1 G (forL t s (ds.drop i) ρ1 S1),
    ⟨ds.length, by simp, Nat.zero_le _, F0, m0, S0, ρ, Ext.refl _ _, w0, r, by rw [List.drop_zero]; exact z⟩, ?_⟩
  rintro i k σ1 H1 ⟨rfl, hi, F1, m1, S1, ρ1, e1, w1, r1, z1⟩
  have sub : Same F0 H1 := e1.fro.trans w1.sub
  by_cases hlt : i < ds.length
  · rw [List.drop_eq_getElem_cons hlt] at z1
    unfold forL at z1
    refine .inr ⟨wk.go i H1 sub hlt, fun σ2 H2 => ∃ F2 m2 S2 ρ2, Ext F0 F2 m0 m2 ∧ Wd K F2 m2 G S2 H2 ∧ RepE K F2 m2 ρ2 σ2 ∧ resS K Er D F2 m2 G (forL t s (ds.drop (i + 1)) ρ2 S2),
      fun σ2 H2 ⟨F2, m2, S2, ρ2, e2, w2, r2, z2⟩ => ⟨ds.length - (i + 1), by omega, rfl, hlt, F2, m2, S2, ρ2, e2, w2, r2, z2⟩, fun x H' y => ?_⟩
    obtain ⟨F1', e1', w1', rd⟩ := wk.nxt e1 w1 hlt y
    have r1' := r1.mono e1'
    have z1 := resS_ext e1' z1
    have e1' := e1.trans e1'
    clear w1 r1 e1
    have w1 := w1'
    have r1 := r1'
    have e1 := e1'
    unfold bnd at z1
    rcases gSet_no (t := t) (d := ds[i]) (ρ := ρ1) (S := S1) with ⟨ρ2, q1⟩ | q1
    · rw [q1] at z1
      refine tgt_of w1 rd r1 q1 fun σ2 r2 _ _ => ?_
      refine ⟨F1', m1, G, S1, ρ2, w1, r2, ?_⟩
      simp only [] at z1
      cases q2 : s ρ2 S1 with
      | err => rw [q2] at z1; exact z1
      | no => rw [q2] at z1; exact z1
      | ok o S3 =>
        rw [q2] at z1
        intro F3 m3 H3 e3 w3
        have z3 := resS_ext e3 z1
        cases o with
        | nx ρ3 => exact fun σ3 r3 => ⟨F3, m3, S3, ρ3, e1.trans e3, w3, r3, z3⟩
        | ct ρ3 => exact fun σ3 r3 => ⟨F3, m3, S3, ρ3, e1.trans e3, w3, r3, z3⟩
        | bk ρ3 => exact fun σ3 r3 => z3 F3 m3 H3 (Ext.refl _ _) w3 σ3 r3
        | rt v3 => exact fun σ3 r3 => z3 F3 m3 H3 (Ext.refl _ _) w3 σ3 r3
    · rw [q1] at z1; exact z1.elim
  · have ei : i = ds.length := by omega
    subst ei
    rw [List.drop_length] at z1
    exact .inl ⟨wk.stop _ H1 sub (Nat.le_refl _), z1 F1 m1 H1 (Ext.refl _ _) w1 σ1 r1⟩
theorem ms_for (hp : PassesOwn (model X.prog X.w) X.A X.env X.xe) (hc : X.calm = true) (hi : MI X Er tg iter f) (hg : MG X tg t) (hb : MSs X Er body s) (hs : ∀ x, foldedSetIterable iter X.env x = pure x := by intro _; rfl) :
    MS X Er (.For tg iter body [] pos) (sFor f t s) := PS.imp (ps_for hp hc hi hg hb hs) fun D σ H ⟨F, m, G, S, ρ, w, r, z⟩ => by
  refine ⟨F, m, G, S, ρ, w, r, ?_⟩
  unfold sFor bnd at z
  cases q : f ρ S with
  | err => rw [q] at z; exact z
  | no => rw [q] at z; exact z
  | ok ds S0 =>
    rw [q] at z
    intro F0 m0 H0 J e0 w0 wk
    exact for_go w0 (r.mono e0) wk (resS_ext e0 z)
end
def asD (x : Vl) : M D := match x with
  | .d y => pur y
  | .c _ => stuck
/-- the slots of the block's own names are forgotten -/
def wipeE (ρ : Env) : List Nat → Env
  | [] => ρ
  | v :: vs => (wipeE ρ vs).set v none
theorem RepE.wipe {K : KW} {F : Hp} {m : List Addr} {ρ : Env} {σ : L2.St} (h : RepE K F m ρ σ) : ∀ vs : List Nat, RepE K F m (wipeE ρ vs) (L2.wipe σ vs)
  | [] => h
  | v :: vs => RepE.unset (RepE.wipe h vs) v Option.none
def lcL (t : Tgt) (p : Env → M Bool) (f : Env → M Vl) (ρ : Env) : List D → M (List D)
  | [] => pur []
  | d :: ds => bnd (gSet t d ρ) fun ρ1 => bnd (p ρ1) fun b => match b with
    | true => bnd (f ρ1) fun x => bnd (asD x) fun y => bnd (lcL t p f ρ ds) fun ys => pur (y :: ys)
    | false => lcL t p f ρ ds
/-- a comprehension's data: a new list -/
def lcF (it : Env → M (List D)) (t : Tgt) (p : Env → M Bool) (f : Env → M Vl) (own : List Nat) : Env → M (List D) := fun ρ => bnd (it ρ) fun ds => if ds.length ≤ 100000 then noE (lcL t p f (wipeE ρ own) ds) else stuck
/-- the reading of a new list, by its data -/
def tNew (K : KW) (Er : ErT) (f : Env → M (List D)) : TE := fun σ H Q => ∃ F m G S ρ, Wd K F m G S H ∧ RepE K F m ρ σ ∧ match f ρ S with
  | .ok ds S' => ∀ (F' : Hp) (m' : List Addr) (H' : Hp) (p : Addr) (vs : List V), Ext F F' m m' → Wd K F' m' (upd G p (.lst vs)) S' H' → G p = none → Reps K F' ds vs → Q (.ref p) H'
  | .err x S' => ∀ (F' : Hp) (m' : List Addr) (H' : Hp), Ext F F' m m' → Wd K F' m' G S' H' → Er x F' H'
  | .no => False
def sNew (ds : List D) : M Vl := pur (.d (.lst ds))
def sNewC (ds : List D) : M Vl := fun S => .ok (.c S.length) (S ++ [.lst ds])
def eNew (f : Env → M (List D)) : Env → M Vl := fun ρ => bnd (f ρ) sNew
def eNewC (f : Env → M (List D)) : Env → M Vl := fun ρ => bnd (f ρ) sNewC
abbrev MN (X : Cx) (Er : ErT) (e : Expr) (f : Env → M (List D)) : Prop := PE X e (tNew X.kw Er f)
theorem tNew_fro {K : KW} {f : Env → M (List D)} {σ : L2.St} {H : Hp} {Q : VK} (h : tE K Er (eNew f) σ H Q) : tNew K Er f σ H Q := by
  obtain ⟨F, m, G, S, ρ, w, r, z⟩ := h
  refine ⟨F, m, G, S, ρ, w, r, ?_⟩
  unfold eNew bnd at z
  cases q : f ρ S with
  | err => rw [q] at z; exact z
  | no => rw [q] at z; exact z
  | ok ds S1 =>
    rw [q] at z
    intro F1 m1 H1 p vs e1 w1 hG rs
    exact z _ m1 H1 _ (e1.trans (Ext.lay (w1.gF p _ upd_same))) (w1.freeze hG) (.lst upd_same (rs.mono (same_upd (w1.gF p _ upd_same))))
theorem me_new {X : Cx} {e : Expr} {f : Env → M (List D)} (h : MN X Er e f) : ME X Er e (eNew f) := PE.imp h fun _ _ _ => tNew_fro
/-- what is still to come: dn is done -/
def Rest (K : KW) (G : Hp) (t : Tgt) (p : Env → M Bool) (f : Env → M Vl) (ρ : Env) (Q : VK) (F : Hp) (m : List Addr) (S : Sto) (dn ds : List D) : Prop := match lcL t p f ρ ds S with
  | .ok rs S' => ∀ (F' : Hp) (m' : List Addr) (H' : Hp) (q : Addr) (vs : List V), Ext F F' m m' → Wd K F' m' (upd G q (.lst vs)) S' H' → G q = none → Reps K F' (dn ++ rs) vs → Q (.ref q) H'
  | .err _ _ => False
  | .no => False
section
variable {K : KW} {G : Hp} {t : Tgt} {p : Env → M Bool} {f : Env → M Vl} {ρ ρ2 : Env} {Q : VK} {F F1 : Hp} {m m1 : List Addr} {S : Sto} {dn ds : List D} {d : D}
theorem Rest.ext (e : Ext F F1 m m1) (h : Rest K G t p f ρ Q F m S dn ds) : Rest K G t p f ρ Q F1 m1 S dn ds := by
  unfold Rest at h ⊢
  cases q : lcL t p f ρ ds S with
  | err => rw [q] at h; exact h
  | no => rw [q] at h; exact h
  | ok rs S' => rw [q] at h; exact fun F' m' H' q vs e' => h F' m' H' q vs (e.trans e')
theorem Rest.fin (h : Rest K G t p f ρ Q F m S dn []) : ∀ (F' : Hp) (m' : List Addr) (H' : Hp) (q : Addr) (vs : List V), Ext F F' m m' → Wd K F' m' (upd G q (.lst vs)) S H' → G q = none → Reps K F' dn vs → Q (.ref q) H' := by
  unfold Rest at h
  unfold lcL pur at h
  simp only [List.append_nil] at h
  exact h
theorem Rest.dead (h : Rest K G t p f ρ Q F m S dn (d :: ds)) (q : gSet t d ρ S = .no) : False := by
  unfold Rest lcL bnd at h
  rw [q] at h
  exact h
theorem Rest.step (h : Rest K G t p f ρ Q F m S dn (d :: ds)) (q : gSet t d ρ S = .ok ρ2 S) : match p ρ2 S with
    | .ok true S2 => (match f ρ2 S2 with
      | .ok (.d y) S3 => Rest K G t p f ρ Q F m S3 (dn ++ [y]) ds
      | _ => False)
    | .ok false S2 => Rest K G t p f ρ Q F m S2 dn ds
    | _ => False := by
  unfold Rest lcL bnd at h
  rw [q] at h
  simp only [] at h
  cases q2 : p ρ2 S with
  | err => rw [q2] at h; exact h.elim
  | no => rw [q2] at h; exact h.elim
  | ok b S2 =>
    rw [q2] at h
    cases b with
    | false => exact h
    | true =>
      simp only [] at h ⊢
      cases q3 : f ρ2 S2 with
      | err => rw [q3] at h; exact h.elim
      | no => rw [q3] at h; exact h.elim
      | ok x S3 =>
        rw [q3] at h
        cases x with
        | c n => exact h.elim
        | d y =>
          unfold Rest
          simp only [asD, pur] at h ⊢
          cases q4 : lcL t p f ρ ds S3 with
          | err => rw [q4] at h; exact h.elim
          | no => rw [q4] at h; exact h.elim
          | ok rs S4 =>
            rw [q4] at h
            simp only [] at h
            intro F' m' H' q vs e w hG rr
            refine h F' m' H' q vs e w hG ?_
            rw [List.append_assoc] at rr
            exact rr
end
theorem wipe_wipe (σ : L2.St) (vs : List Nat) : L2.wipe (L2.wipe σ vs) vs = L2.wipe σ vs := by
  have key : ∀ (us : List Nat), (∀ i ∈ us, i ∈ vs) → L2.wipe (L2.wipe σ us) vs = L2.wipe σ vs := by
    intro us
    induction us with
    | nil => intro _; rfl
    | cons u us ih =>
      intro h
      show L2.wipe ((L2.wipe σ us).set u none) vs = _
      rw [wipe_set (h u List.mem_cons_self)]
      exact ih fun i hi => h i (List.mem_cons_of_mem _ hi)
  exact key vs fun _ h => h
theorem tLc_of {K : KW} {it : Env → M (List D)} {t : Tgt} {p : Env → M Bool} {f : Env → M Vl} {own : List Nat} {σ : L2.St} {H : Hp} {Q : VK} (hs : ∀ i ∈ t.slots, i ∈ own) (h : tNew K Er (lcF it t p f own) σ H Q) : tLc (tI K Er it) (t.tg K) (tT K er0 p) (tE K er0 f) own σ H Q := by
  obtain ⟨F, m, G, S, ρ, w, r, z⟩ := h
  refine ⟨F, m, G, S, ρ, w, r, ?_⟩
  unfold lcF bnd at z
  cases q : it ρ S with
  | err => rw [q] at z; exact z
  | no => rw [q] at z; exact z
  | ok ds S0 =>
    rw [q] at z
    simp only [] at z
    by_cases hz : ds.length ≤ 100000
    case neg => rw [if_neg hz] at z; exact z.elim
    rw [if_pos hz] at z
    intro F0 m0 H0 J e0 w0 wk Dl hD
    have hG : G Dl = none := w0.gfresh hD
    refine ⟨fun i k H1 => k = ds.length - i ∧ i ≤ ds.length ∧ ∃ F1 m1 S1 dn vs, Ext F0 F1 m0 m1 ∧ Wd K F1 m1 (upd G Dl (.lst vs)) S1 H1 ∧ Reps K F1 dn vs ∧ dn.length ≤ i ∧ Rest K G t p f (wipeE ρ own) Q F1 m1 S1 dn (ds.drop i),
      ⟨ds.length, by simp, Nat.zero_le _, F0, m0, S0, [], [], Ext.refl _ _, w0.push hD _, .nil, Nat.le_refl _, by
        rw [List.drop_zero]
        unfold Rest
        unfold noE at z
        cases q1 : lcL t p f (wipeE ρ own) ds S0 with
        | err => rw [q1] at z; exact z
        | no => rw [q1] at z; exact z
        | ok rs S1 =>
          rw [q1] at z
          exact fun F' m' H' p vs' e => z F' m' H' p vs' (e0.trans e)⟩, ?_⟩
    rintro i k H1 ⟨rfl, hi, F1, m1, S1, dn, vs, e1, w1, rs, hl, z1⟩
    have sub : Same F0 H1 := e1.fro.trans w1.sub
    by_cases hlt : i < ds.length
    · rw [List.drop_eq_getElem_cons hlt] at z1
      refine .inr ⟨wk.go i H1 sub hlt, fun H2 => ∃ F2 m2 S2 dn2 vs2, Ext F0 F2 m0 m2 ∧ Wd K F2 m2 (upd G Dl (.lst vs2)) S2 H2 ∧ Reps K F2 dn2 vs2 ∧ dn2.length ≤ i + 1 ∧ Rest K G t p f (wipeE ρ own) Q F2 m2 S2 dn2 (ds.drop (i + 1)),
        fun H2 ⟨F2, m2, S2, dn2, vs2, e2, w2, r2, l2, z2⟩ => ⟨ds.length - (i + 1), by omega, rfl, hlt, F2, m2, S2, dn2, vs2, e2, w2, r2, l2, z2⟩, fun x H' y => ?_⟩
      obtain ⟨F1', e1', w1', rd⟩ := wk.nxt e1 w1 hlt y
      have z1 := Rest.ext e1' z1
      have rs := rs.mono e1'.fro
      have e1 := e1.trans e1'
      have w1 := w1'
      have rw1 : RepE K F1' m1 (wipeE ρ own) (L2.wipe σ own) := (r.mono (e0.trans e1)).wipe own
      rcases gSet_no (t := t) (d := ds[i]) (ρ := wipeE ρ own) (S := S1) with ⟨ρ2, q1⟩ | q1
      · refine tgt_of w1 rd rw1 q1 fun σ2 r2 hw _ => ⟨(hw own hs).trans (wipe_wipe σ own), ?_⟩
        refine ⟨F1', m1, upd G Dl (.lst vs), S1, ρ2, w1, r2, ?_⟩
        have z2 := z1.step q1
        cases q2 : p ρ2 S1 with
        | err => rw [q2] at z2; exact z2.elim
        | no => rw [q2] at z2; exact z2.elim
        | ok b S2 =>
          rw [q2] at z2
          intro F2 m2 H2 b' e2 w2 eb
          have eb : b = b' := eb
          subst eb
          cases b with
          | false =>
            simp only [] at z2
            rw [if_neg Bool.false_ne_true]
            exact ⟨F2, m2, S2, dn, vs, e1.trans e2, w2, rs.mono e2.fro, by omega, z2.ext e2⟩
          | true =>
            simp only [] at z2
            rw [if_pos rfl]
            refine ⟨F2, m2, upd G Dl (.lst vs), S2, ρ2, w2, r2.mono e2, ?_⟩
            cases q3 : f ρ2 S2 with
            | err => rw [q3] at z2; exact z2.elim
            | no => rw [q3] at z2; exact z2.elim
            | ok xv S3 =>
              rw [q3] at z2
              cases xv with
              | c n => exact z2.elim
              | d yv =>
                intro F3 m3 H3 v e3 w3 rv
                refine ⟨vs, w3.gsub Dl _ upd_same, by rw [← rs.length]; exact sz5' (by omega), F3, m3, S3, dn ++ [yv], vs ++ [v], e1.trans (e2.trans e3), ?_, (rs.mono (e2.trans e3).fro).append (.cons rv .nil), by simp; omega, Rest.ext (e2.trans e3) z2⟩
                exact (w3.unframe hG).frame upd_same (w3.gF Dl _ upd_same) fun n hn => by
                  have := w3.gm n Dl hn
                  rw [upd_same] at this; cases this
      · exact (z1.dead q1).elim
    · have ei : i = ds.length := by omega
      subst ei
      rw [List.drop_length] at z1
      refine .inl ⟨wk.stop _ H1 sub (Nat.le_refl _), ?_⟩
      have z1 := z1.fin
      exact z1 F1 m1 H1 Dl vs (Ext.refl _ _) w1 hG rs
def bYes : Env → M Bool := fun _ => pur true
abbrev MTs (X : Cx) (Er : ErT) (ifs : List Expr) (p : Env → M Bool) : Prop := PTs X ifs (tT X.kw Er p)
theorem mts_nil {X : Cx} : MTs X Er [] bYes := ⟨fun pins s σ H Q I h => pts_nil.run pins s σ H Q I (by
  obtain ⟨F, m, G, S, ρ, w, r, z⟩ := h
  exact res_ok w rfl z)⟩
theorem mts_one {X : Cx} {c : Expr} {p : Env → M Bool} (h : MT X Er c p) : MTs X Er [c] p := pts_one h
section
variable {X : Cx} {elt tg iter : Expr} {ifs : List Expr} {scope : Scope} {own : List (Str × Nat)} {pos : Pos} {it : Env → M (List D)} {t : Tgt} {p : Env → M Bool} {f : Env → M Vl}
theorem mn_lc (own : List (Str × Nat)) (hc : X.calm = true) (hN : X.N.Nodup) (hi : MI X Er tg iter it) (ok : BlkOk X.N X.env.scope scope own)
    (hg : ∀ (s : Shared) (H : Hp) (C : Addr) (cl : List (Str × Addr)) (fp : List Addr), MG (X.blk s H scope (compEnvC scope cl C X.env) fp) tg t) (ht : ∀ (s : Shared) (H : Hp) (C : Addr) (cl : List (Str × Addr)) (fp : List Addr), MTs (X.blk s H scope (compEnvC scope cl C X.env) fp) er0 ifs p)
    (he : ∀ (s : Shared) (H : Hp) (C : Addr) (cl : List (Str × Addr)) (fp : List Addr), ME (X.blk s H scope (compEnvC scope cl C X.env) fp) er0 elt f) (hsl : ∀ i ∈ t.slots, i ∈ own.map (·.2) := by decide) (hs : ∀ x, foldedSetIterable iter X.env x = pure x := by intro _; rfl) :
    MN X Er (.ListComp elt [⟨tg, iter, ifs, 0⟩] scope pos) (lcF it t p f (own.map (·.2))) := PE.imp (pe_lc hc hN hi ok hg ht he hs) fun _ _ _ => tLc_of hsl
/-- y = [..], on one line -/
theorem ms_setLcE {i : Nat} {y : Str} {py spos : Pos} {k : (Env → M (List D)) → Env → M Vl} (hk : ∀ {g : Env → M (List D)} {σ : L2.St} {H : Hp} {Q : VK}, tE X.kw Er (k g) σ H Q → tNew X.kw Er g σ H Q) (own : List (Str × Nat)) (hc : X.calm = true) (hN : X.N.Nodup) (hy : X.N[i]? = some y) (hyl : X.env.scope.names.lookup y = some .local)
    (hsw : swapsWith (.ListComp elt [⟨tg, iter, ifs, 0⟩] scope pos) (some (.Name y py)) spos.line X.env = pure true) (hi : MI X Er tg iter it) (ok : BlkOk X.N X.env.scope scope own)
    (hg : ∀ (s : Shared) (H : Hp) (C : Addr) (cl : List (Str × Addr)) (fp : List Addr), MG (X.blk s H scope (compEnvC scope cl C X.env) fp) tg t) (ht : ∀ (s : Shared) (H : Hp) (C : Addr) (cl : List (Str × Addr)) (fp : List Addr), MTs (X.blk s H scope (compEnvC scope cl C X.env) fp) er0 ifs p)
    (he : ∀ (s : Shared) (H : Hp) (C : Addr) (cl : List (Str × Addr)) (fp : List Addr), ME (X.blk s H scope (compEnvC scope cl C X.env) fp) er0 elt f) (hsl : ∀ i ∈ t.slots, i ∈ own.map (·.2) := by decide) (hs : ∀ x, foldedSetIterable iter X.env x = pure x := by intro _; rfl) :
    MS X Er (.Assign [.Name y py] (.ListComp elt [⟨tg, iter, ifs, 0⟩] scope pos) spos) (sSet i (k (lcF it t p f (own.map (·.2))))) := PS.imp (ps_setLc hc hN hy hyl hsw hi ok hg ht he hs) fun D σ H ⟨F, m, G, S, ρ, w, r, z⟩ => by
  refine tLc_of (K := X.kw) (it := it) (t := t) (p := p) (f := f) hsl (hk ?_)
  refine rd_mono (rd_bndS (A := rV X.kw) w r z) fun v H1 ⟨F1, m1, S1, a1, e1, w1, r1, ra, q1⟩ => ?_
  exact q1 F1 m1 H1 (Ext.refl _ _) w1 _ (r1.set ra i)
end
/-- what a call leaves: young cells are forgotten, but the one that is handed back -/
def gcV (n : Nat) (x : Vl) (S : Sto) : R Vl := match x with
  | .d y => .ok (.d y) (S.take n)
  | .c k => if k < n then .ok (.c k) (S.take n) else match S[k]? with
    | some b => .ok (.c n) (S.take n ++ [b])
    | none => .no
def startE (N : Nat) (xs : List Vl) : Env := xs.map some ++ List.replicate (N - xs.length) none
def fnM (N : Nat) (s : Env → M Out) : List Vl → M Vl := fun xs S => match s (startE N xs) S with
  | .ok (.rt x) S' => gcV S.length x S'
  | .ok (.nx _) S' => gcV S.length (.d .non) S'
  | .ok _ _ => .no
  | .err x S' => .err x (S'.take S.length)
  | .no => .no
theorem pre_take {m m' : List Addr} (h : m <+: m') : m'.take m.length = m := by
  obtain ⟨t, rfl⟩ := h
  rw [List.take_append_of_le_length (Nat.le_refl _), List.take_length]
theorem gc_ok {K : KW} {F F' G H' : Hp} {m m' : List Addr} {S S' : Sto} {x : Vl} {v : V} {Q : VK} (hl : m.length = S.length) (e : Ext F F' m m') (w : Wd K F' m' G S' H') (r : RepV K F' m' x v) (z : res K Er (rV K) F m G (gcV S.length x S') Q) : Q v H' := by
  have ht := pre_take e.pre
  unfold gcV at z
  cases x with
  | d y =>
    have w2 := w.cut m.length
    rw [ht, hl] at w2
    exact z F' m H' v ⟨e.fro, List.prefix_refl _⟩ w2 r
  | c k =>
    obtain ⟨a, ha, rfl⟩ := r
    simp only [] at z
    split at z
    · rename_i hk
      have w2 := w.cut m.length
      rw [ht, hl] at w2
      refine z F' m H' _ ⟨e.fro, List.prefix_refl _⟩ w2 ⟨a, ?_, rfl⟩
      rw [← ht, List.getElem?_take_of_lt (by omega)]
      exact ha
    · rename_i hk
      cases q : S'[k]? with
      | none => rw [q] at z; exact z.elim
      | some b =>
        rw [q] at z
        have w2 := w.cut1 (n := m.length) (by omega) ha q
        rw [ht] at w2
        have e2 : S'.take m.length = S'.take S.length := by rw [hl]
        rw [e2] at w2
        refine z F' (m ++ [a]) H' _ ⟨e.fro, List.prefix_append _ _⟩ w2 ⟨a, ?_, rfl⟩
        rw [← hl]
        simp
theorem start_rep {K : KW} {F : Hp} {m : List Addr} {N : List Str} : ∀ {xs : List Vl} {vs : List V}, RepVs K F m xs vs → RepE K F m (startE N.length xs) (L2.start N vs) := fun {xs vs} r => by
  have hl := r.length
  refine ⟨?_, fun i x h => ?_⟩
  · unfold startE L2.start
    simp [hl]
  · unfold startE at h
    have hi : i < xs.length := by
      by_cases hi : i < xs.length
      · exact hi
      · rw [List.getElem?_append_right (by simpa using hi), List.getElem?_replicate] at h
        split at h <;> cases h
    rw [List.getElem?_append_left (by simpa using hi), List.getElem?_map] at h
    have hx : xs[i]? = some x := by
      cases q : xs[i]? with
      | none => rw [q] at h; cases h
      | some y => rw [q] at h; cases h; rfl
    have key : ∀ {xs : List Vl} {vs : List V} {i : Nat}, RepVs K F m xs vs → xs[i]? = some x → ∃ v, vs[i]? = some v ∧ RepV K F m x v := by
      intro xs vs i r
      induction r generalizing i with
      | nil => intro h; simp at h
      | cons r1 r2 ih =>
        intro h
        cases i with
        | zero => simp at h; subst h; exact ⟨_, rfl, r1⟩
        | succ i => simp at h; obtain ⟨v, h1, h2⟩ := ih h; exact ⟨v, by simpa using h1, h2⟩
    obtain ⟨v, hv, rv⟩ := key r hx
    refine ⟨v, ?_, rv⟩
    unfold L2.start
    rw [List.getElem?_append_left (by rw [List.length_map]; omega), List.getElem?_map, hv]
    rfl
section
variable {P : Program} {w : World} {K : Frag} {mg : Str → Option Value} {base : Heap}
theorem fn_body {K : KW} {N : List Str} {sf : Env → M Out} {n : Nat} {vs : List V} {H : Hp} {Q : VK} {E : XK} (h : spM K n (fnM N.length sf) vs H Q E) : tS K (erE K E) sf { nx := fun _ H' => Q .non H', rt := Q } (L2.start N vs) H := by
  obtain ⟨_, F, m, G, S, xs, w, r, z⟩ := h
  refine ⟨F, m, G, S, startE N.length xs, w, start_rep r, ?_⟩
  unfold fnM at z
  cases q : sf (startE N.length xs) S with
  | err x S' =>
    rw [q] at z
    intro F' m' H' e w'
    have w2 := w'.cut m.length
    rw [pre_take e.pre, w.len] at w2
    exact z F' m H' ⟨e.fro, List.prefix_refl _⟩ w2
  | no => rw [q] at z; exact z
  | ok o S' =>
    rw [q] at z
    intro F' m' H' e w'
    cases o with
    | nx ρ => exact fun σ _ => gc_ok (x := .d .non) w.len e w' Rep.non z
    | rt x => exact fun v rv => gc_ok w.len e w' rv z
    | bk ρ => exact z.elim
    | ct ρ => exact z.elim
end
end Dz
namespace Dz
open PySem PySem.Spec PyProof.Rows L2
def opt {α β : Type} (o : Option α) (k : α → M β) : M β := match o with
  | some a => k a
  | none => stuck
theorem res_opt {α β γ : Type} {K : KW} {A : Hp → List Addr → β → γ → Prop} {F G : Hp} {m : List Addr} {S : Sto} {o : Option α} {k : α → M β} {Q : γ → Hp → Prop} (h : res K Er A F m G (opt o k S) Q) : ∃ a, o = some a ∧ res K Er A F m G (k a S) Q := by
  cases o with
  | none => exact h.elim
  | some a => exact ⟨a, rfl, h⟩
/-- a cell's list -/
def getC (n : Nat) : M (List D) := fun S => match S[n]? with
  | some (.lst xs) => .ok xs S
  | _ => .no
theorem res_getC {α β : Type} {K : KW} {A : Hp → List Addr → α → β → Prop} {F G H : Hp} {m : List Addr} {S : Sto} {n : Nat} {v : V} {k : List D → M α} {Q : β → Hp → Prop} (w : Wd K F m G S H) (r : RepV K F m (.c n) v) (h : res K Er A F m G (bnd (getC n) k S) Q) :
    ∃ a xs vs, v = .ref a ∧ m[n]? = some a ∧ S[n]? = some (.lst xs) ∧ H a = some (.lst vs) ∧ Reps K F xs vs ∧ res K Er A F m G (k xs S) Q := by
  obtain ⟨a, hm, rfl⟩ := r
  unfold bnd getC at h
  cases q : S[n]? with
  | none => rw [q] at h; exact h.elim
  | some b =>
    cases b with
    | ins c fs => rw [q] at h; exact h.elim
    | dead => rw [q] at h; exact h.elim
    | lst xs =>
      rw [q] at h
      obtain ⟨o, ho, rr⟩ := w.cells n a _ hm q
      cases rr with
      | lst rs => exact ⟨a, xs, _, rfl, hm, rfl, ho, rs, h⟩
section
variable {X : Cx}
theorem opM_of {f : Value → Value → Sem Value} {r : R2} {g : Vl → Vl → M Vl} (h : OpR X f r) (i : ∀ (F : Hp) (m : List Addr) (G : Hp) (S : Sto) (H : Hp) (a b : Vl) (x y : V) (Q : VK), Wd X.kw F m G S H → RepV X.kw F m a x → RepV X.kw F m b y → res X.kw Er (rV X.kw) F m G (g a b S) Q → r x y H Q) : OpM X Er f g :=
  fun pins s σ H x y v u Q I rx ry ⟨F, m, G, S, a, b, w, ra, rb, z⟩ => h pins s σ H x y v u Q I rx ry (i F m G S H a b x y Q w ra rb z)
/-- two ints -/
def g2I (C : Int → Int → Bool) (k : Int → Int → D) : Vl → Vl → M Vl := fun a b => match a, b with
  | .d (.int i), .d (.int j) => if C i j then pur (.d (k i j)) else stuck
  | _, _ => stuck
theorem opM_I {f : Value → Value → Sem Value} {C : Int → Int → Prop} {k : Int → Int → V} {B : Int → Int → Bool} {kd : Int → Int → D} (h : OpR X f (rI C k)) (hC : ∀ i j, B i j = true → C i j) (hk : ∀ K F i j, Rep K F (kd i j) (k i j)) : OpM X Er f (g2I B kd) :=
  opM_of h fun F m G S H a b x y Q w ra rb z => by
  unfold g2I at z
  split at z
  · rename_i i j
    cases ra
    cases rb
    split at z
    · rename_i hb
      exact ⟨i, j, rfl, rfl, hC i j hb, res_ok w (hk _ _ i j) z⟩
    · exact z.elim
  · exact z.elim
theorem rI_of {f : Value → Value → Sem Value} {k : Int → Int → V} (h : OpR X f (rI0 k)) : OpR X f (rI (fun _ _ => True) k) := fun pins s σ H x y v u Q I rx ry ⟨i, j, e1, e2, _, q⟩ => h pins s σ H x y v u Q I rx ry ⟨i, j, e1, e2, q⟩
def yes2 : Int → Int → Bool := fun _ _ => true
/-- + -/
def opAdd : Vl → Vl → M Vl := fun a b => match a, b with
  | .d (.int i), .d (.int j) => pur (.d (.int (i + j)))
  | .d (.str x), .d (.str y) => if x.length + y.length ≤ 100000 then pur (.d (.str (x ++ y))) else stuck
  | .d (.lst xs), .d (.lst ys) => if xs.length + ys.length ≤ 100000 then pur (.d (.lst (xs ++ ys))) else stuck
  | .d (.tup xs), .d (.tup ys) => if xs.length + ys.length ≤ 100000 then pur (.d (.tup (xs ++ ys))) else stuck
  | _, _ => stuck
theorem om_add : OpM X Er (binaryOp .Add) opAdd := opM_of (op_add.or (op_add_str.or (op_cat.or op_catA))) fun F m G S H a b x y Q w ra rb z => by
  unfold opAdd at z
  split at z
  · cases ra; cases rb
    exact .inl ⟨_, _, rfl, rfl, res_ok w (.int _) z⟩
  · cases ra; cases rb
    split at z
    · rename_i hl
      exact .inr (.inl ⟨_, _, rfl, rfl, sz5 hl, res_ok w (.str _) z⟩)
    · exact z.elim
  · cases ra with
    | lst ha r1 =>
    cases rb with
    | lst hb r2 =>
    split at z
    · rename_i hl
      refine .inr (.inr (.inl ⟨_, _, _, _, rfl, rfl, w.sub _ _ ha, w.sub _ _ hb, by rw [← r1.length, ← r2.length]; exact sz5 hl, fun p hp => ?_⟩))
      exact z _ m _ _ (Ext.lay (w.fresh hp)) (w.lay hp _) (.lst upd_same ((r1.append r2).mono (same_upd (w.fresh hp))))
    · exact z.elim
  · cases ra with
    | tup ha r1 =>
    cases rb with
    | tup hb r2 =>
    split at z
    · rename_i hl
      refine .inr (.inr (.inr ⟨_, _, _, _, rfl, rfl, sqT_mono w.sub ha, sqT_mono w.sub hb, by rw [← r1.length, ← r2.length]; exact sz5 hl, fun e => ?_, fun _ e => ?_, fun _ _ p hp => ?_⟩))
      · subst e
        cases r1
        exact res_ok w (.tup hb r2) z
      · subst e
        cases r2
        rw [List.append_nil] at z
        exact res_ok w (.tup ha r1) z
      · exact z _ m _ _ (Ext.lay (w.fresh hp)) (w.lay hp _) (.tup (.inl (.inl upd_same)) ((r1.append r2).mono (same_upd (w.fresh hp))))
    · exact z.elim
  · exact z.elim
def opSub : Vl → Vl → M Vl := g2I yes2 fun i j => .int (i - j)
theorem om_sub : OpM X Er (binaryOp .Sub) opSub := opM_I (rI_of op_sub) (fun _ _ _ => trivial) fun _ _ _ _ => .int _
/-- * of ints (one of them below 2 ^ 64), of a list and an int -/
def bMul (i j : Int) : Bool := decide (-(2 ^ 64) < i ∧ i < 2 ^ 64) || decide (-(2 ^ 64) < j ∧ j < 2 ^ 64)
def opMul : Vl → Vl → M Vl := fun a b => match a, b with
  | .d (.int i), .d (.int j) => if bMul i j then pur (.d (.int (i * j))) else stuck
  | .d (.lst xs), .d (.int k) => if -(2 ^ 63) ≤ k ∧ k < 2 ^ 63 ∧ xs.length * k.toNat ≤ 100000 then pur (.d (.lst (List.replicate k.toNat xs).flatten)) else stuck
  | _, _ => stuck
theorem reps_rep {K : KW} {F : Hp} {ds : List D} {vs : List V} (r : Reps K F ds vs) : ∀ n : Nat, Reps K F (List.replicate n ds).flatten (List.replicate n vs).flatten
  | 0 => .nil
  | n + 1 => by
    rw [List.replicate_succ, List.replicate_succ, List.flatten_cons, List.flatten_cons]
    exact r.append (reps_rep r n)
theorem om_mul : OpM X Er (binaryOp .Mult) opMul := opM_of (op_mul.or op_rep) fun F m G S H a b x y Q w ra rb z => by
  unfold opMul at z
  split at z
  · cases ra; cases rb
    split at z
    · rename_i i j hb
      refine .inl ⟨i, j, rfl, rfl, ?_, res_ok w (.int _) z⟩
      unfold bMul at hb
      rw [Bool.or_eq_true, decide_eq_true_iff, decide_eq_true_iff] at hb
      exact hb
    · exact z.elim
  · cases rb
    cases ra with
    | lst ha r1 =>
    split at z
    · rename_i hl
      refine .inr ⟨_, _, _, rfl, rfl, w.sub _ _ ha, hl.1, hl.2.1, by rw [← r1.length]; exact sz5 hl.2.2, fun p hp => ?_⟩
      exact z _ m _ _ (Ext.lay (w.fresh hp)) (w.lay hp _) (.lst upd_same ((reps_rep r1 _).mono (same_upd (w.fresh hp))))
    · exact z.elim
  · exact z.elim
def opMod : Vl → Vl → M Vl := g2I (fun _ j => decide (0 < j)) fun i j => .int (i % j)
theorem om_mod : OpM X Er (binaryOp .Mod) opMod := opM_I op_mod (fun _ _ h => of_decide_eq_true h) fun _ _ _ _ => .int _
def opDiv : Vl → Vl → M Vl := g2I (fun _ j => decide (0 < j ∧ j < 1073741824)) fun i j => .int (i / j)
theorem om_div : OpM X Er (binaryOp .FloorDiv) opDiv := opM_I op_fdiv (fun i j h => by
  have q : 0 < j ∧ j < 1073741824 := of_decide_eq_true h
  exact q) fun _ _ _ _ => .int _
def opPow : Vl → Vl → M Vl := g2I (fun i j => decide (0 ≤ j ∧ (Builtin.Int.intBits i : Int) * j ≤ 2 ^ 27)) fun i j => .int (i ^ j.toNat)
theorem op_powW : OpR X (binaryOp .Pow) (rI (fun i j => 0 ≤ j ∧ (Builtin.Int.intBits i : Int) * j ≤ 2 ^ 27) fun i j => .int (i ^ j.toNat)) := opI fun _ _ _ _ _ _ _ hc q => pow_int hc.1 hc.2 q
theorem om_pow : OpM X Er (binaryOp .Pow) opPow := opM_I op_powW (fun _ _ h => of_decide_eq_true h) fun _ _ _ _ => .int _
def opNeg : Vl → M Vl := fun a => match a with
  | .d (.int i) => pur (.d (.int (-i)))
  | _ => stuck
theorem um_neg : UnR X (unaryOp .USub) (RUM X.kw Er opNeg) := fun pins s σ H x u Q I rx ⟨F, m, G, S, a, w, ra, z⟩ => un_neg pins s σ H x u Q I rx (by
  unfold opNeg at z
  split at z
  · cases ra
    exact ⟨_, rfl, res_ok w (.int _) z⟩
  · exact z.elim)
def cmpI (k : Int → Int → Bool) (l : List Nat → List Nat → Bool) : Vl → Vl → M Vl := fun a b => match a, b with
  | .d (.int i), .d (.int j) => pur (.d (.bl (k i j)))
  | .d (.str x), .d (.str y) => pur (.d (.bl (l x.cps.toList y.cps.toList)))
  | _, _ => stuck
theorem om_cmpI {op : CmpOp} {k : Int → Int → Bool} {l : List Nat → List Nat → Bool} (h1 : OpR X (compareOp op) (rI0 fun i j => .bl (k i j))) (h2 : OpR X (compareOp op) (fun x y H Q => ∃ i j, x = .str i ∧ y = .str j ∧ Q (.bl (l i.cps.toList j.cps.toList)) H)) : OpM X Er (compareOp op) (cmpI k l) :=
  opM_of (h1.or h2) fun F m G S H a b x y Q w ra rb z => by
  unfold cmpI at z
  split at z
  · cases ra; cases rb
    exact .inl ⟨_, _, rfl, rfl, res_ok w (.bl _) z⟩
  · cases ra; cases rb
    exact .inr ⟨_, _, rfl, rfl, res_ok w (.bl _) z⟩
  · exact z.elim
def cLt : Vl → Vl → M Vl := cmpI (fun i j => decide (i < j)) fun x y => decide (x < y)
def cLe : Vl → Vl → M Vl := cmpI (fun i j => decide (i ≤ j)) fun x y => !decide (y < x)
def cGt : Vl → Vl → M Vl := cmpI (fun i j => decide (j < i)) fun x y => decide (y < x)
def cGe : Vl → Vl → M Vl := cmpI (fun i j => decide (j ≤ i)) fun x y => !decide (x < y)
theorem om_lt : OpM X Er (compareOp .Lt) cLt := om_cmpI op_lt op_lt_str
theorem om_gt : OpM X Er (compareOp .Gt) cGt := om_cmpI op_gt op_gt_str
/-- is None -/
def isNon : D → Bool
  | .non => true
  | _ => false
def cIs : Vl → Vl → M Vl := fun a b => match a, b with
  | .d x, .d .non => pur (.d (.bl (isNon x)))
  | .c _, .d .non => pur (.d (.bl false))
  | _, _ => stuck
def cIsNot : Vl → Vl → M Vl := fun a b => match a, b with
  | .d x, .d .non => pur (.d (.bl (!isNon x)))
  | .c _, .d .non => pur (.d (.bl true))
  | _, _ => stuck
mutual
def pyOf : D → Option PyData
  | .non => some .none
  | .bl b => some (.bool b)
  | .int i => some (.int i)
  | .str x => some (.str x)
  | .ty _ => none
  | .tup xs => match pyOfs xs with
    | some ps => some (.tuple ps)
    | none => none
  | .lst xs => match pyOfs xs with
    | some ps => some (.list ps)
    | none => none
  | .scr _ => none
  | .dcN _ => none
  | .exn _ _ => none
  | .dct _ => none
  | .ins _ _ => none
  | .cls _ => none
def pyOfs : List D → Option (List PyData)
  | [] => some []
  | x :: xs => match pyOf x, pyOfs xs with
    | some p, some ps => some (p :: ps)
    | _, _ => none
end
mutual
theorem pyOf_dp {K : KW} {F H : Hp} (s : Same F H) : ∀ {d : D} {v : V} {p : PyData}, Rep K F d v → pyOf d = some p → Dp K H v p
  | _, _, _, .non, h => by cases h; exact .non
  | _, _, _, .bl b, h => by cases h; exact .bl b
  | _, _, _, .int b, h => by cases h; exact .int b
  | _, _, _, .str b, h => by cases h; exact .str b
  | _, _, _, .ty b, h => by cases h
  | _, _, _, .tup ht rs, h => by
    unfold pyOf at h
    split at h
    · rename_i q
      cases h
      exact .tup (sqT_mono s ht) (pyOfs_dp s rs q)
    · cases h
  | _, _, _, .lst ht rs, h => by
    unfold pyOf at h
    split at h
    · rename_i q
      cases h
      exact .lst (s.seq (SqL.of ht)) (pyOfs_dp s rs q)
    · cases h
  | _, _, _, .scr _, h => by cases h
  | _, _, _, .dcN _ _, h => by cases h
  | _, _, _, .exn _ _, h => by cases h
  | _, _, _, .exk _ _ _ _, h => by cases h
  | _, _, _, .dct _ _, h => by cases h
  | _, _, _, .ins _ _, h => by cases h
  | _, _, _, .cls _, h => by cases h
theorem pyOfs_dp {K : KW} {F H : Hp} (s : Same F H) : ∀ {ds : List D} {vs : List V} {ps : List PyData}, Reps K F ds vs → pyOfs ds = some ps → DpAll K H vs ps
  | _, _, _, .nil, h => by cases h; exact .nil
  | _, _, _, .cons r rs, h => by
    unfold pyOfs at h
    split at h
    · rename_i q1 q2
      cases h
      exact .cons (pyOf_dp s r q1) (pyOfs_dp s rs q2)
    · cases h
end
def eqD (a b : D) : Option Bool := match pyOf a, pyOf b with
  | some p, some q => if SeqAt.shaped p && SeqAt.shaped q then some (PyData.eqv p q) else none
  | _, _ => none
def cEq : Vl → Vl → M Vl := fun a b => match a, b with
  | .d x, .d y => opt (eqD x y) fun k => pur (.d (.bl k))
  | _, _ => stuck
def cNe : Vl → Vl → M Vl := fun a b => match a, b with
  | .d x, .d y => opt (eqD x y) fun k => pur (.d (.bl (!k)))
  | _, _ => stuck
theorem eqD_of {K : KW} {F G H : Hp} {m : List Addr} {S : Sto} {a b : D} {x y : V} {k : Bool} (w : Wd K F m G S H) (ra : Rep K F a x) (rb : Rep K F b y) (h : eqD a b = some k) : ∃ p q, Dp K H x p ∧ Dp K H y q ∧ SeqAt.shaped p = true ∧ SeqAt.shaped q = true ∧ PyData.eqv p q = k := by
  unfold eqD at h
  split at h
  · rename_i p q h1 h2
    split at h
    · rename_i hs
      cases h
      rw [Bool.and_eq_true] at hs
      exact ⟨p, q, pyOf_dp w.sub ra h1, pyOf_dp w.sub rb h2, hs.1, hs.2, rfl⟩
    · cases h
  · cases h
theorem om_eq (hu : X.A.units + 64 < cLine) : OpM X Er (compareOp .Eq) cEq := opM_of (op_eqD hu) fun F m G S H a b x y Q w ra rb z => by
  unfold cEq at z
  split at z
  · obtain ⟨k, h, z⟩ := res_opt z
    obtain ⟨p, q, h1, h2, h3, h4, rfl⟩ := eqD_of w ra rb h
    exact ⟨p, q, h1, h2, h3, h4, res_ok w (.bl _) z⟩
  · exact z.elim
theorem om_ne (hu : X.A.units + 64 < cLine) : OpM X Er (compareOp .NotEq) cNe := opM_of (op_neD hu) fun F m G S H a b x y Q w ra rb z => by
  unfold cNe at z
  split at z
  · obtain ⟨k, h, z⟩ := res_opt z
    obtain ⟨p, q, h1, h2, h3, h4, rfl⟩ := eqD_of w ra rb h
    exact ⟨p, q, h1, h2, h3, h4, res_ok w (.bl _) z⟩
  · exact z.elim
/-- in a text -/
def cIn : Vl → Vl → M Vl := fun a b => match a, b with
  | .d (.str x), .d (.str y) => pur (.d (.bl (!(Builtin.Str.occurrences y x 0 y.length 1).isEmpty)))
  | _, _ => stuck
def gIx : Vl → Vl → M Vl := fun a b => match a, b with
  | .d (.lst xs), .d (.int i) => opt (atI xs i) fun x => pur (.d x)
  | .d (.scr ns), .d (.int i) => opt (atI ns i) fun n => pur (.d (.int n))
  | .d (.tup xs), .d (.int i) => opt (atI xs i) fun x => pur (.d x)
  | .d (.str z), .d (.int i) => if z.length ≤ 100000 then opt (atI z.cps.toList i) fun c => pur (.d (.str ⟨#[c]⟩)) else stuck
  | .c n, .d (.int i) => bnd (getC n) fun xs => opt (atI xs i) fun x => pur (.d x)
  | _, _ => stuck
theorem atI_rep {K : KW} {F : Hp} {ds : List D} {vs : List V} {i : Int} {d : D} (r : Reps K F ds vs) (h : atI ds i = some d) : ∃ v, atI vs i = some v ∧ Rep K F d v := by
  unfold atI at h ⊢
  rw [← r.length]
  cases q : ixN ds.length i with
  | none => rw [q] at h; cases h
  | some j =>
    rw [q] at h
    exact r.get h
theorem atI_map {ns : List Int} {i n : Int} (h : atI ns i = some n) : atI (ns.map V.int) i = some (.int n) := by
  unfold atI at h ⊢
  rw [List.length_map]
  cases q : ixN ns.length i with
  | none => rw [q] at h; cases h
  | some j =>
    rw [q] at h
    have h : ns[j]? = some n := h
    show (ns.map V.int)[j]? = _
    rw [List.getElem?_map, h]
    rfl
def eIx (f h : Env → M Vl) : Env → M Vl := eOp gIx f h
theorem ixM : ∀ {F : Hp} {m : List Addr} {G : Hp} {S : Sto} {H : Hp} {a b : Vl} {x y : V} {Q : VK}, Wd X.kw F m G S H → RepV X.kw F m a x → RepV X.kw F m b y → res X.kw Er (rV X.kw) F m G (gIx a b S) Q → rIx X.kw x y H Q := fun {F m G S H a b x y Q} w ra rb z => by
  unfold gIx at z
  split at z
  · cases ra with
    | lst ha rs =>
    cases rb
    obtain ⟨d, h, z⟩ := res_opt z
    obtain ⟨v, hv, rd⟩ := atI_rep rs h
    exact .inl ⟨_, _, _, v, rfl, rfl, w.sub.seq (SqL.of ha), hv, res_ok w rd z⟩
  · cases ra with
    | scr ha =>
    cases rb
    obtain ⟨d, h, z⟩ := res_opt z
    exact .inl ⟨_, _, _, _, rfl, rfl, w.sub.seq ha, atI_map h, res_ok w (.int _) z⟩
  · cases ra with
    | tup ha rs =>
    cases rb
    obtain ⟨d, h, z⟩ := res_opt z
    obtain ⟨v, hv, rd⟩ := atI_rep rs h
    exact .inr (.inl ⟨_, _, _, v, rfl, rfl, sqT_mono w.sub ha, hv, res_ok w rd z⟩)
  · cases ra
    cases rb
    split at z
    · rename_i hl
      obtain ⟨c, h, z⟩ := res_opt z
      exact .inr (.inr ⟨_, _, c, rfl, rfl, sz5 hl, h, res_ok w (.str _) z⟩)
    · exact z.elim
  · obtain ⟨a, xs, vs, rfl, hm, hS, ho, rs, z⟩ := res_getC w ra z
    cases rb
    obtain ⟨d, h, z⟩ := res_opt z
    obtain ⟨v, hv, rd⟩ := atI_rep rs h
    exact .inl ⟨_, _, _, v, rfl, rfl, SqL.of ho, hv, res_ok w rd z⟩
  · exact z.elim
theorem me_ix {a b : Expr} {pos : Pos} {f h : Env → M Vl} (ha : ME X Er a f) (hb : ME X Er b h) (hs : PlainIx b := by exact fun _ _ => rfl) : ME X Er (.Subscript a b pos) (eIx f h) := PE.imp (pe_ix ix_seq ha hb hs) fun σ H Q hw => by
  obtain ⟨F, m, G, S, ρ, w, r, q⟩ := hw
  refine rd_mono (rd_bnd (A := rV X.kw) w r q) fun x H1 ⟨F1, m1, S1, a1, e1, w1, r1, ra, q1⟩ => ?_
  refine rd_mono (rd_bnd (A := rV X.kw) w1 r1 q1) fun y H2 ⟨F2, m2, S2, a2, e2, w2, r2, rb, q2⟩ => ?_
  exact ixM w2 (ra.mono e2) rb q2
theorem callM_of {f : Value} {r : List V → Hp → VK → Prop} {g : List Vl → M Vl} (h : CallR X f r) (i : ∀ (F : Hp) (m : List Addr) (G : Hp) (S : Sto) (H : Hp) (xs : List Vl) (vs : List V) (Q : VK), Wd X.kw F m G S H → RepVs X.kw F m xs vs → res X.kw Er (rV X.kw) F m G (g xs S) Q → r vs H Q) : CallM X Er f g :=
  fun pins s σ H vs us Q I rx ⟨F, m, G, S, xs, w, ra, z⟩ => h pins s σ H vs us Q I rx (i F m G S H xs vs Q w ra z)
def bLen : List Vl → M Vl := fun xs => match xs with
  | [.d (.lst ds)] => pur (.d (.int ds.length))
  | [.d (.tup ds)] => pur (.d (.int ds.length))
  | [.d (.scr ds)] => pur (.d (.int ds.length))
  | [.d (.str z)] => if z.length ≤ 100000 then pur (.d (.int z.length)) else stuck
  | [.c n] => bnd (getC n) fun ds => pur (.d (.int ds.length))
  | _ => stuck
theorem cm_len : CallM X Er (.builtin "len") bLen := callM_of call_len fun F m G S H xs vs Q w rs z => by
  unfold bLen at z
  split at z
  · cases rs with
    | cons r1 r2 =>
    cases r2
    cases r1 with
    | lst ha r => exact ⟨_, _, rfl, .inl ⟨_, w.sub.seq (SqL.of ha), rfl⟩, by rw [← r.length]; exact res_ok w (.int _) z⟩
  · cases rs with
    | cons r1 r2 =>
    cases r2
    cases r1 with
    | tup ha r => exact ⟨_, _, rfl, .inr ⟨_, sqT_mono w.sub ha, rfl⟩, by rw [← r.length]; exact res_ok w (.int _) z⟩
  · cases rs with
    | cons r1 r2 =>
    cases r2
    cases r1 with
    | scr ha => exact ⟨_, _, rfl, .inl ⟨_, w.sub.seq ha, rfl⟩, by rw [List.length_map]; exact res_ok w (.int _) z⟩
  · cases rs with
    | cons r1 r2 =>
    cases r2
    cases r1
    split at z
    · rename_i hl
      exact ⟨_, _, rfl, ⟨sz5 hl, rfl⟩, res_ok w (.int _) z⟩
    · exact z.elim
  · cases rs with
    | cons r1 r2 =>
    cases r2
    obtain ⟨a, xs, vs, rfl, hm, hS, ho, r, z⟩ := res_getC w r1 z
    exact ⟨_, _, rfl, .inl ⟨_, SqL.of ho, rfl⟩, by rw [← r.length]; exact res_ok w (.int _) z⟩
  · exact z.elim
def bAbs : List Vl → M Vl := fun xs => match xs with
  | [.d (.int i)] => pur (.d (.int (if i < 0 then -i else i)))
  | _ => stuck
theorem cm_abs : CallM X Er (.builtin "abs") bAbs := callM_of call_abs fun F m G S H xs vs Q w rs z => by
  unfold bAbs at z
  split at z
  · cases rs with
    | cons r1 r2 =>
    cases r2
    cases r1
    exact ⟨_, rfl, res_ok w (.int _) z⟩
  · exact z.elim
def bMax : List Vl → M Vl := fun xs => match xs with
  | [.d (.int i), .d (.int j)] => pur (.d (.int (if j > i then j else i)))
  | _ => stuck
def bMin : List Vl → M Vl := fun xs => match xs with
  | [.d (.int i), .d (.int j)] => pur (.d (.int (if j < i then j else i)))
  | _ => stuck
theorem cm_max (hc : X.calm = true) : CallM X Er (.builtin "max") bMax := callM_of (call_max2 hc) fun F m G S H xs vs Q w rs z => by
  unfold bMax at z
  split at z
  · cases rs with
    | cons r1 r2 =>
    cases r2 with
    | cons r2 r3 =>
    cases r3
    cases r1
    cases r2
    exact ⟨_, _, rfl, res_ok w (.int _) z⟩
  · exact z.elim
def tInt : List Vl → M Vl := fun xs => match xs with
  | [.d (.int i)] => pur (.d (.int i))
  | [.d (.bl k)] => pur (.d (.int (if k then 1 else 0)))
  | _ => stuck
theorem cm_int : CallM X Er (.type "int") tInt := callM_of call_int1 fun F m G S H xs vs Q w rs z => by
  unfold tInt at z
  split at z
  · cases rs with
    | cons r1 r2 =>
    cases r2
    cases r1
    exact .inl ⟨_, rfl, res_ok w (.int _) z⟩
  · cases rs with
    | cons r1 r2 =>
    cases r2
    cases r1
    exact .inr ⟨_, rfl, res_ok w (.int _) z⟩
  · exact z.elim
/-- repr of a bool -/
def bRepr : List Vl → M Vl := fun xs => match xs with
  | [.d (.bl b)] => pur (.d (.str (if b then "True" else "False")))
  | _ => stuck
/-- isinstance(x, a built-in type) -/
def tyN : D → Option String
  | .non => some "NoneType" | .bl _ => some "bool" | .int _ => some "int" | .str _ => some "str" | .ty _ => none
  | .tup _ => some "tuple" | .lst _ => some "list" | .scr _ => some "list" | .dct _ => some "dict" | .ins _ _ => none | .cls _ => none | .dcN _ => none | .exn _ _ => none
theorem me_ty {x : Str} {T : String} {pos : Pos} (hg : Gl X x) (hm : X.mg x = none) (hv : bootBuiltins x = some (.type T)) (hn : x ≠ "__name__" := by decide) (hd : (x == ("__debug__" : Str)) = false := by decide) : ME X Er (.Name x pos) (eC (.ty T)) := me_c (v := .ty T) (pe_bltn hg hm hv rfl hn hd) fun _ _ => .ty T
def strsOf : List D → Option (List Str)
  | [] => some []
  | .str b :: r => match strsOf r with
    | some bs => some (b :: bs)
    | none => none
  | _ :: _ => none
def mJoin : Vl → Vl → M Vl := fun a b => match a, b with
  | .d (.str s), .d (.lst ds) => opt (strsOf ds) fun ys => if (ys.map (·.length)).sum + ys.length * s.length ≤ 100000 then pur (.d (.str (Txt.join s ys))) else stuck
  | .d (.str s), .d (.tup ds) => opt (strsOf ds) fun ys => if (ys.map (·.length)).sum + ys.length * s.length ≤ 100000 then pur (.d (.str (Txt.join s ys))) else stuck
  | _, _ => stuck
def isS (a : Vl) : M Vl := match a with
  | .d (.str s) => pur (.d (.str s))
  | _ => stuck
def eJoin (f h : Env → M Vl) : Env → M Vl := fun ρ => bnd (f ρ) fun a => bnd (isS a) fun a => bnd (h ρ) fun b => mJoin a b
/-- {} -/
theorem me_dnew {pos : Pos} : ME X Er (.Dict [] [] pos) (eC (.dct [])) := PE.imp pe_dnewK fun σ H Q ⟨F, m, G, S, ρ, w, r, z⟩ => by
  intro p hp
  exact z _ m _ _ (Ext.lay (w.fresh hp)) (w.lay hp _) (.dct (.inl upd_same) .nil)
end
/-- the law's end: from what its meaning gives at the script -/
theorem law_end {K : KW} {H : Hp} {a : Addr} {ns : List Int} {φ : List Vl → M Vl} {E : XK} (hS : Fit K a ns H) (h : ∃ S', φ [.d (.scr ns)] [] = .ok (.d (.bl true)) S') : spM K 1 φ [.ref a] H (fun v _ => v = .bl true) E := by
  obtain ⟨S', h⟩ := h
  obtain ⟨F, hF⟩ : ∃ F : Hp, F = fun b => if b = a then H a else none := ⟨_, rfl⟩
  have at_ : F a = H a := by rw [hF]; exact if_pos rfl
  have off : ∀ b o, F b = some o → b = a ∧ H b = some o := fun b o e => by
    rw [hF] at e
    by_cases z : b = a
    · have e : (if b = a then H a else none) = some o := e
      rw [if_pos z] at e
      exact ⟨z, z ▸ e⟩
    · have e : (if b = a then H a else none) = some o := e
      rw [if_neg z] at e
      cases e
  have w : Wd K F [] (fun _ => none) [] H := ⟨fun b o e => (off b o e).2, (fun _ _ e => by cases e), (fun _ _ e => by cases e), (fun n a e => by simp at e), rfl, (fun n a b e => by simp at e), (fun n a b e => by simp at e), (fun n k a e => by simp at e),
    fun p hp => (by
      obtain ⟨q, hq, e⟩ := tabL_cs hp
      exact LamX.TabS.nil (e ▸ hS.tabs q hq)), (fun b o e => by
      obtain ⟨z, e⟩ := off b o e
      rcases hS.here with n | ⟨ob, xs, n⟩
      · rw [z, n] at e; cases e
      · rw [z, n] at e; cases e; exact NT.of rfl), (fun _ _ e => by cases e)⟩
  have scr : SqL K F a (ns.map V.int) := by
    rcases hS.scr with (e | ⟨o, e⟩) | e
    · exact .inl (.inl (at_.trans e))
    · exact .inl (.inr ⟨o, at_.trans e⟩)
    · exact .inr e
  refine ⟨rfl, F, [], fun _ => none, [], [.d (.scr ns)], w, .cons (show RepV K F [] (.d (.scr ns)) (.ref a) from .scr scr) .nil, ?_⟩
  rw [h]
  intro F' m' H' v e w r
  cases r
  rfl
end Dz
namespace Dz
open PySem L2
theorem fnM_at {N : Nat} {s : Env → M Out} {xs : List Vl} {y : D} {S S' : Sto} (h : s (startE N xs) S = .ok (.rt (.d y)) S') : fnM N s xs S = .ok (.d y) (S'.take S.length) := by
  unfold fnM
  rw [h]
  rfl
theorem getC_at {n : Nat} {xs : List D} {S : Sto} (h : S[n]? = some (.lst xs)) : getC n S = .ok xs S := by unfold getC; rw [h]
end Dz
namespace Dz
open PySem L2
def wp {α : Type} (p : M α) (S : Sto) (Q : α → Sto → Prop) : Prop := ∃ a S', p S = .ok a S' ∧ Q a S'
theorem wp_pur {α : Type} {a : α} {S : Sto} {Q : α → Sto → Prop} : wp (pur a) S Q ↔ Q a S := by
  refine ⟨fun ⟨b, S', e, q⟩ => ?_, fun h => ⟨a, S, rfl, h⟩⟩
  cases e
  exact q
theorem wp_bnd {α β : Type} {p : M α} {f : α → M β} {S : Sto} {Q : β → Sto → Prop} : wp (bnd p f) S Q ↔ wp p S fun a S' => wp (f a) S' Q := by
  constructor
  · rintro ⟨b, S', e, q⟩
    unfold bnd at e
    cases h : p S with
    | err => rw [h] at e; cases e
    | no => rw [h] at e; cases e
    | ok a S1 =>
      rw [h] at e
      exact ⟨a, S1, h, b, S', e, q⟩
  · rintro ⟨a, S1, h, b, S', e, q⟩
    exact ⟨b, S', by unfold bnd; rw [h]; exact e, q⟩
theorem wp_mono {α : Type} {p : M α} {S : Sto} {Q Q' : α → Sto → Prop} (h : wp p S Q) (i : ∀ a S', Q a S' → Q' a S') : wp p S Q' := by
  obtain ⟨a, S', e, q⟩ := h
  exact ⟨a, S', e, i a S' q⟩
theorem wp_getC {n : Nat} {xs : List D} {S : Sto} {Q : List D → Sto → Prop} (h : S[n]? = some (.lst xs)) (q : Q xs S) : wp (getC n) S Q := ⟨xs, S, getC_at h, q⟩
/-- a def by its body: it gives back a datum -/
theorem wp_fn {N : Nat} {s : Env → M Out} {xs : List Vl} {S : Sto} {Q : Vl → Sto → Prop} (h : wp (s (startE N xs)) S fun o S' => ∃ y, o = .rt (.d y) ∧ Q (.d y) (S'.take S.length)) : wp (fnM N s xs) S Q := by
  obtain ⟨o, S', e, y, rfl, q⟩ := h
  exact ⟨.d y, _, fnM_at e, q⟩
/-- .. a new cell -/
theorem wp_fnC {N : Nat} {s : Env → M Out} {xs : List Vl} {S : Sto} {Q : Vl → Sto → Prop} (h : wp (s (startE N xs)) S fun o S' => ∃ k b, o = .rt (.c k) ∧ S.length ≤ k ∧ S'[k]? = some b ∧ Q (.c S.length) (S'.take S.length ++ [b])) : wp (fnM N s xs) S Q := by
  obtain ⟨o, S', e, k, b, rfl, hk, hb, q⟩ := h
  refine ⟨.c S.length, _, ?_, q⟩
  unfold fnM
  rw [e]
  show gcV S.length (.c k) S' = _
  unfold gcV
  simp only []
  rw [if_neg (by omega), hb]
theorem wp_opt {α β : Type} {o : Option α} {k : α → M β} {S : Sto} {Q : β → Sto → Prop} {a : α} (h : o = some a) (q : wp (k a) S Q) : wp (opt o k) S Q := by
  subst h
  exact q
/-- .. that draws: by an invariant of the store -/
theorem lcL_wp {t : Tgt} {f : Env → M Vl} {ρ : Env} {I : Sto → Prop} {B : D → Prop} : ∀ (ds : List D) (S : Sto), I S → (∀ d ∈ ds, ∀ S, I S → ∃ ρ1, gSet t d ρ = pur ρ1 ∧ wp (f ρ1) S fun x S' => ∃ y, x = .d y ∧ B y ∧ I S') →
    wp (lcL t bYes f ρ ds) S fun ys S' => ys.length = ds.length ∧ (∀ y ∈ ys, B y) ∧ I S'
  | [], S, hI, _ => wp_pur.mpr ⟨rfl, fun _ h => (nomatch h), hI⟩
  | d :: ds, S, hI, h => by
    obtain ⟨ρ1, h1, h2⟩ := h d List.mem_cons_self S hI
    unfold lcL
    rw [h1, bnd_ret]
    show wp (bnd (f ρ1) _) S _
    refine wp_bnd.mpr (wp_mono h2 ?_)
    rintro _ S1 ⟨y, rfl, hB, hI1⟩
    show wp (bnd (lcL t bYes f ρ ds) _) S1 _
    refine wp_bnd.mpr (wp_mono (lcL_wp ds S1 hI1 fun x hx => h x (List.mem_cons_of_mem _ hx)) ?_)
    rintro ys S2 ⟨l, hB2, hI2⟩
    refine wp_pur.mpr ⟨by simp [l], fun z hz => ?_, hI2⟩
    rcases List.mem_cons.mp hz with rfl | hz
    · exact hB
    · exact hB2 z hz
end Dz
namespace Dz
open PySem L2
section
variable {S : Sto} {ρ : Env} {f g h : Env → M Vl} {p q : Env → M Bool} {s t : Env → M Out} {fs : Env → M (List Vl)} {i j k : Nat}
theorem w_var {Q : Vl → Sto → Prop} : wp (eVar i ρ) S Q ↔ wp (match ρ[i]? with | some (some x) => pur x | _ => stuck) S Q := Iff.rfl
theorem w_c {d : D} {Q : Vl → Sto → Prop} : wp (eC d ρ) S Q ↔ Q (.d d) S := wp_pur
theorem w_op {o : Vl → Vl → M Vl} {Q : Vl → Sto → Prop} : wp (eOp o f g ρ) S Q ↔ wp (f ρ) S fun x S => wp (g ρ) S fun y S => wp (o x y) S Q := by
  unfold eOp
  rw [wp_bnd]
  simp only [wp_bnd]
theorem w_ix {Q : Vl → Sto → Prop} : wp (eIx f g ρ) S Q ↔ wp (f ρ) S fun x S => wp (g ρ) S fun y S => wp (gIx x y) S Q := w_op
theorem w_un {o : Vl → M Vl} {Q : Vl → Sto → Prop} : wp (eUn o f ρ) S Q ↔ wp (f ρ) S fun x S => wp (o x) S Q := wp_bnd
theorem w_test {Q : Bool → Sto → Prop} : wp (eTest f ρ) S Q ↔ wp (f ρ) S fun x S => wp (asB x) S Q := wp_bnd
theorem w_asB {b : Bool} {Q : Bool → Sto → Prop} : wp (asB (.d (.bl b))) S Q ↔ Q b S := wp_pur
theorem w_not {Q : Bool → Sto → Prop} : wp (bNot p ρ) S Q ↔ wp (p ρ) S fun b S => Q (!b) S := by
  unfold bNot
  rw [wp_bnd]
  simp only [wp_pur]
theorem w_and {Q : Bool → Sto → Prop} : wp (bAnd p q ρ) S Q ↔ wp (p ρ) S fun b S => if b = true then wp (q ρ) S Q else Q false S := by
  unfold bAnd
  rw [wp_bnd]
  constructor
  · exact fun h => wp_mono h fun b S h => by cases b with
      | true => exact h
      | false => exact wp_pur.mp h
  · exact fun h => wp_mono h fun b S h => by cases b with
      | true => exact h
      | false => exact wp_pur.mpr h
theorem w_or {Q : Bool → Sto → Prop} : wp (bOr p q ρ) S Q ↔ wp (p ρ) S fun b S => if b = true then Q true S else wp (q ρ) S Q := by
  unfold bOr
  rw [wp_bnd]
  constructor
  · exact fun h => wp_mono h fun b S h => by cases b with
      | true => exact wp_pur.mp h
      | false => exact h
  · exact fun h => wp_mono h fun b S h => by cases b with
      | true => exact wp_pur.mpr h
      | false => exact h
theorem w_if {Q : Vl → Sto → Prop} : wp (eIf p f g ρ) S Q ↔ wp (p ρ) S fun b S => if b = true then wp (f ρ) S Q else wp (g ρ) S Q := by
  unfold eIf
  rw [wp_bnd]
  constructor <;> exact fun h => wp_mono h fun b S h => by cases b <;> exact h
theorem w_sif {Q : Out → Sto → Prop} : wp (sIf p s t ρ) S Q ↔ wp (p ρ) S fun b S => if b = true then wp (s ρ) S Q else wp (t ρ) S Q := by
  unfold sIf
  rw [wp_bnd]
  constructor <;> exact fun h => wp_mono h fun b S h => by cases b <;> exact h
theorem w_chain {o o' : Vl → Vl → M Vl} {Q : Vl → Sto → Prop} : wp (eChain o o' f g h ρ) S Q ↔ wp (f ρ) S fun x S => wp (g ρ) S fun y S => wp (o x y) S fun z S => wp (asB z) S fun k S => if k = true then wp (h ρ) S fun z S => wp (o' y z) S Q else Q (.d (.bl false)) S := by
  unfold eChain
  simp only [wp_bnd]
  constructor <;> refine fun h => wp_mono h fun x S h => wp_mono h fun y S h => wp_mono h fun z S h => wp_mono h fun k S h => ?_
  · cases k with
    | true => exact wp_bnd.mp h
    | false => exact wp_pur.mp h
  · cases k with
    | true => exact wp_bnd.mpr h
    | false => exact wp_pur.mpr h
theorem w_eand {Q : Vl → Sto → Prop} : wp (eAnd f g ρ) S Q ↔ wp (f ρ) S fun x S => wp (asB x) S fun k S => if k = true then wp (g ρ) S Q else Q (.d (.bl false)) S := by
  unfold eAnd
  simp only [wp_bnd]
  constructor <;> refine fun h => wp_mono h fun x S h => wp_mono h fun k S h => ?_
  · cases k with
    | true => exact h
    | false => exact wp_pur.mp h
  · cases k with
    | true => exact h
    | false => exact wp_pur.mpr h
theorem w_eor {Q : Vl → Sto → Prop} : wp (eOr f g ρ) S Q ↔ wp (f ρ) S fun x S => wp (asB x) S fun k S => if k = true then Q (.d (.bl true)) S else wp (g ρ) S Q := by
  unfold eOr
  simp only [wp_bnd]
  constructor <;> refine fun h => wp_mono h fun x S h => wp_mono h fun k S h => ?_
  · cases k with
    | true => exact wp_pur.mp h
    | false => exact h
  · cases k with
    | true => exact wp_pur.mpr h
    | false => exact h
theorem w_enot {Q : Vl → Sto → Prop} : wp (eNot f ρ) S Q ↔ wp (f ρ) S fun x S => wp (asB x) S fun k S => Q (.d (.bl (!k))) S := by
  unfold eNot
  simp only [wp_bnd, wp_pur]
/-- what follows a statement -/
def after (t : Env → M Out) (Q : Out → Sto → Prop) (o : Out) (S : Sto) : Prop := match o with
  | .nx ρ => wp (t ρ) S Q
  | o => Q o S
theorem w_seq {Q : Out → Sto → Prop} : wp (sSeq s t ρ) S Q ↔ wp (s ρ) S (after t Q) := by
  unfold sSeq
  rw [wp_bnd]
  constructor
  · exact fun h => wp_mono h fun o S h => by cases o with
      | nx ρ => exact h
      | rt x => exact (wp_pur (Q := Q)).mp h
      | bk ρ => exact (wp_pur (Q := Q)).mp h
      | ct ρ => exact (wp_pur (Q := Q)).mp h
  · exact fun h => wp_mono h fun o S h => by cases o with
      | nx ρ => exact h
      | rt x => exact (wp_pur (Q := Q)).mpr h
      | bk ρ => exact (wp_pur (Q := Q)).mpr h
      | ct ρ => exact (wp_pur (Q := Q)).mpr h
theorem after_nx {Q : Out → Sto → Prop} : after t Q (.nx ρ) S ↔ wp (t ρ) S Q := Iff.rfl
theorem after_rt {Q : Out → Sto → Prop} {x : Vl} : after t Q (.rt x) S ↔ Q (.rt x) S := Iff.rfl
theorem w_next {Q : Out → Sto → Prop} : wp (sNext ρ) S Q ↔ Q (.nx ρ) S := wp_pur
theorem w_ret {Q : Out → Sto → Prop} : wp (sRet f ρ) S Q ↔ wp (f ρ) S fun x S => Q (.rt x) S := by
  unfold sRet
  rw [wp_bnd]
  simp only [wp_pur]
theorem w_set {Q : Out → Sto → Prop} : wp (sSet i f ρ) S Q ↔ wp (f ρ) S fun x S => Q (.nx (ρ.set i (some x))) S := by
  unfold sSet
  rw [wp_bnd]
  simp only [wp_pur]
theorem w_drop {Q : Out → Sto → Prop} : wp (sDrop f ρ) S Q ↔ wp (f ρ) S fun x S => Q (.nx ρ) S := by
  unfold sDrop
  rw [wp_bnd]
  simp only [wp_pur]
theorem w_put {Q : Out → Sto → Prop} : wp (sPut f g h ρ) S Q ↔ wp (h ρ) S fun v S => wp (f ρ) S fun o S => wp (g ρ) S fun i S => wp (setC o i v) S fun _ S => Q (.nx ρ) S := by
  unfold sPut
  simp only [wp_bnd, wp_pur]
theorem w_nil {Q : List Vl → Sto → Prop} : wp (aNil ρ) S Q ↔ Q [] S := wp_pur
theorem w_cons {Q : List Vl → Sto → Prop} : wp (aCons f fs ρ) S Q ↔ wp (f ρ) S fun x S => wp (fs ρ) S fun xs S => Q (x :: xs) S := by
  unfold aCons
  simp only [wp_bnd, wp_pur]
theorem w_cb {o : List Vl → M Vl} {Q : Vl → Sto → Prop} : wp (eCB o fs ρ) S Q ↔ wp (fs ρ) S fun xs S => wp (o xs) S Q := wp_bnd
theorem w_call {o : List Vl → M Vl} {Q : Vl → Sto → Prop} : wp (eCall o fs ρ) S Q ↔ wp (fs ρ) S fun xs S => wp (o xs) S Q := wp_bnd
theorem w_tup {Q : Vl → Sto → Prop} : wp (eTup fs ρ) S Q ↔ wp (fs ρ) S fun xs S => wp (dTup xs) S Q := wp_bnd
theorem w_lst {Q : Vl → Sto → Prop} : wp (eLst fs ρ) S Q ↔ wp (fs ρ) S fun xs S => wp (dLst xs) S Q := wp_bnd
theorem w_cell {Q : Vl → Sto → Prop} : wp (eCell fs ρ) S Q ↔ wp (fs ρ) S fun xs S => wp (dCell xs) S Q := wp_bnd
theorem w_for {it : Env → M (List D)} {tg : Tgt} {Q : Out → Sto → Prop} : wp (sFor it tg s ρ) S Q ↔ wp (it ρ) S fun ds S => wp (forL tg s ds ρ) S Q := wp_bnd
theorem w_of {o : Vl → M (List D)} {Q : List D → Sto → Prop} : wp (iOf o f ρ) S Q ↔ wp (f ρ) S fun x S => wp (o x) S Q := wp_bnd
theorem w_rg {Q : List D → Sto → Prop} : wp (iRg fs ρ) S Q ↔ wp (fs ρ) S fun xs S => wp (itR xs) S Q := wp_bnd
theorem w_new {it : Env → M (List D)} {Q : Vl → Sto → Prop} : wp (eNew it ρ) S Q ↔ wp (it ρ) S fun ds S => Q (.d (.lst ds)) S := by
  unfold eNew
  rw [wp_bnd]
  simp only [sNew, wp_pur]
theorem w_newC {it : Env → M (List D)} {Q : Vl → Sto → Prop} : wp (eNewC it ρ) S Q ↔ wp (it ρ) S fun ds S => Q (.c S.length) (S ++ [.lst ds]) := by
  unfold eNewC
  rw [wp_bnd]
  constructor
  · exact fun h => wp_mono h fun ds S ⟨a, S', e, q⟩ => by cases e; exact q
  · exact fun h => wp_mono h fun ds S q => ⟨_, _, rfl, q⟩
theorem wp_noE {α : Type} {q : M α} {S : Sto} {Q : α → Sto → Prop} : wp (noE q) S Q ↔ wp q S Q := by
  unfold wp noE
  constructor
  · rintro ⟨a, S', e, h⟩
    cases z : q S with
    | ok b S2 => rw [z] at e; cases e; exact ⟨_, _, rfl, h⟩
    | err x S2 => rw [z] at e; cases e
    | no => rw [z] at e; cases e
  · rintro ⟨a, S', e, h⟩
    exact ⟨a, S', by rw [e], h⟩
theorem wp_ite_noE {α : Type} {c : Prop} [Decidable c] {q : M α} {S : Sto} {Q : α → Sto → Prop} : wp (if c then noE q else stuck) S Q ↔ wp (if c then q else stuck) S Q := by
  split
  · exact wp_noE
  · exact Iff.rfl
theorem w_lc {it : Env → M (List D)} {tg : Tgt} {own : List Nat} {Q : List D → Sto → Prop} : wp (lcF it tg p f own ρ) S Q ↔ wp (it ρ) S fun ds S => wp (if ds.length ≤ 100000 then lcL tg p f (wipeE ρ own) ds else stuck) S Q := by
  unfold lcF
  rw [wp_bnd]
  simp only [wp_ite_noE]
theorem w_join {Q : Vl → Sto → Prop} : wp (eJoin f g ρ) S Q ↔ wp (f ρ) S fun a S => wp (isS a) S fun a S => wp (g ρ) S fun b S => wp (mJoin a b) S Q := by
  unfold eJoin
  simp only [wp_bnd]
theorem w_isS {x : Str} {Q : Vl → Sto → Prop} : wp (isS (.d (.str x))) S Q ↔ Q (.d (.str x)) S := wp_pur
variable {Q : Vl → Sto → Prop} {a b : Int}
theorem w_add : wp (opAdd (.d (.int a)) (.d (.int b))) S Q ↔ Q (.d (.int (a + b))) S := wp_pur
theorem w_sub : wp (opSub (.d (.int a)) (.d (.int b))) S Q ↔ Q (.d (.int (a - b))) S := wp_pur
theorem w_mul : wp (opMul (.d (.int a)) (.d (.int b))) S Q ↔ wp (if bMul a b = true then pur (.d (.int (a * b))) else stuck) S Q := Iff.rfl
theorem bMul_l {a b : Int} (h : -(2 ^ 64) < a ∧ a < 2 ^ 64) : bMul a b = true := by unfold bMul; rw [decide_eq_true h]; rfl
theorem bMul_r {a b : Int} (h : -(2 ^ 64) < b ∧ b < 2 ^ 64) : bMul a b = true := by unfold bMul; rw [decide_eq_true h, Bool.or_true]
theorem w_mul_l (h : -(2 ^ 64) < a ∧ a < 2 ^ 64) : wp (opMul (.d (.int a)) (.d (.int b))) S Q ↔ Q (.d (.int (a * b))) S := by rw [w_mul, if_pos (bMul_l h), wp_pur]
theorem w_mul_r (h : -(2 ^ 64) < b ∧ b < 2 ^ 64) : wp (opMul (.d (.int a)) (.d (.int b))) S Q ↔ Q (.d (.int (a * b))) S := by rw [w_mul, if_pos (bMul_r h), wp_pur]
theorem w_mod (h : 0 < b) : wp (opMod (.d (.int a)) (.d (.int b))) S Q ↔ Q (.d (.int (a % b))) S := by
  unfold opMod g2I
  simp only [decide_eq_true h, if_true, wp_pur]
theorem w_div (h : 0 < b ∧ b < 1073741824) : wp (opDiv (.d (.int a)) (.d (.int b))) S Q ↔ Q (.d (.int (a / b))) S := by
  unfold opDiv g2I
  simp only [decide_eq_true h, if_true, wp_pur]
theorem w_pow (h : 0 ≤ b ∧ (Builtin.Int.intBits a : Int) * b ≤ 2 ^ 27) : wp (opPow (.d (.int a)) (.d (.int b))) S Q ↔ Q (.d (.int (a ^ b.toNat))) S := by
  unfold opPow g2I
  simp only [decide_eq_true h, if_true, wp_pur]
theorem w_neg : wp (opNeg (.d (.int a))) S Q ↔ Q (.d (.int (-a))) S := wp_pur
theorem w_lt : wp (cLt (.d (.int a)) (.d (.int b))) S Q ↔ Q (.d (.bl (decide (a < b)))) S := wp_pur
theorem w_le : wp (cLe (.d (.int a)) (.d (.int b))) S Q ↔ Q (.d (.bl (decide (a ≤ b)))) S := wp_pur
theorem w_gt : wp (cGt (.d (.int a)) (.d (.int b))) S Q ↔ Q (.d (.bl (decide (b < a)))) S := wp_pur
theorem w_ge : wp (cGe (.d (.int a)) (.d (.int b))) S Q ↔ Q (.d (.bl (decide (b ≤ a)))) S := wp_pur
theorem w_ltS {x y : Str} : wp (cLt (.d (.str x)) (.d (.str y))) S Q ↔ Q (.d (.bl (decide (x.cps.toList < y.cps.toList)))) S := wp_pur
theorem w_leS {x y : Str} : wp (cLe (.d (.str x)) (.d (.str y))) S Q ↔ Q (.d (.bl (!decide (y.cps.toList < x.cps.toList)))) S := wp_pur
theorem w_is {x : D} : wp (cIs (.d x) (.d .non)) S Q ↔ Q (.d (.bl (isNon x))) S := wp_pur
theorem w_isnot {x : D} : wp (cIsNot (.d x) (.d .non)) S Q ↔ Q (.d (.bl (!isNon x))) S := wp_pur
theorem w_eq {x y : D} {k : Bool} (h : eqD x y = some k) : wp (cEq (.d x) (.d y)) S Q ↔ Q (.d (.bl k)) S := by
  show wp (opt (eqD x y) _) S Q ↔ _
  rw [h]
  exact wp_pur
theorem w_ne {x y : D} {k : Bool} (h : eqD x y = some k) : wp (cNe (.d x) (.d y)) S Q ↔ Q (.d (.bl (!k))) S := by
  show wp (opt (eqD x y) _) S Q ↔ _
  rw [h]
  exact wp_pur
theorem w_inS {c : Nat} {z : Str} : wp (cIn (.d (.str ⟨#[c]⟩)) (.d (.str z))) S Q ↔ Q (.d (.bl (decide (c ∈ z.cps.toList)))) S := by
  rw [← PySem.StrLaws.found_one z c]
  exact wp_pur
theorem w_rpr {b : Bool} : wp (bRepr [.d (.bl b)]) S Q ↔ Q (.d (.str (if b then "True" else "False"))) S := wp_pur
theorem w_int : wp (tInt [.d (.int a)]) S Q ↔ Q (.d (.int a)) S := wp_pur
theorem w_intb {c : Bool} : wp (tInt [.d (.bl c)]) S Q ↔ Q (.d (.int (if c then 1 else 0))) S := wp_pur
theorem w_abs : wp (bAbs [.d (.int a)]) S Q ↔ Q (.d (.int (if a < 0 then -a else a))) S := wp_pur
theorem w_max : wp (bMax [.d (.int a), .d (.int b)]) S Q ↔ Q (.d (.int (if b > a then b else a))) S := wp_pur
theorem w_min : wp (bMin [.d (.int a), .d (.int b)]) S Q ↔ Q (.d (.int (if b < a then b else a))) S := wp_pur
theorem w_lenL {ds : List D} : wp (bLen [.d (.lst ds)]) S Q ↔ Q (.d (.int ds.length)) S := wp_pur
theorem w_lenT {ds : List D} : wp (bLen [.d (.tup ds)]) S Q ↔ Q (.d (.int ds.length)) S := wp_pur
theorem w_lenR {ds : List Int} : wp (bLen [.d (.scr ds)]) S Q ↔ Q (.d (.int ds.length)) S := wp_pur
theorem w_lenS {x : Str} (h : x.length ≤ 100000) : wp (bLen [.d (.str x)]) S Q ↔ Q (.d (.int x.length)) S := by
  unfold bLen
  simp only [if_pos h, wp_pur]
variable {n : Nat} {x y z : D}
theorem w_die0 (hn : S[n]? = some (.lst [x, y, z])) : wp (gIx (.c n) (.d (.int 0))) S Q ↔ Q (.d x) S := by
  unfold gIx
  rw [wp_bnd]
  refine ⟨fun ⟨a, S', e, q⟩ => ?_, fun q => wp_getC hn (wp_pur.mpr q)⟩
  rw [getC_at hn] at e
  cases e
  exact wp_pur.mp q
theorem w_die1 (hn : S[n]? = some (.lst [x, y, z])) : wp (gIx (.c n) (.d (.int 1))) S Q ↔ Q (.d y) S := by
  unfold gIx
  rw [wp_bnd]
  refine ⟨fun ⟨a, S', e, q⟩ => ?_, fun q => wp_getC hn (wp_pur.mpr q)⟩
  rw [getC_at hn] at e
  cases e
  exact wp_pur.mp q
theorem w_die2 (hn : S[n]? = some (.lst [x, y, z])) : wp (gIx (.c n) (.d (.int 2))) S Q ↔ Q (.d z) S := by
  unfold gIx
  rw [wp_bnd]
  refine ⟨fun ⟨a, S', e, q⟩ => ?_, fun q => wp_getC hn (wp_pur.mpr q)⟩
  rw [getC_at hn] at e
  cases e
  exact wp_pur.mp q
theorem w_putAt {xs : List D} {k : Int} {j : Nat} {v : D} {Q : Unit → Sto → Prop} (hn : S[n]? = some (.lst xs)) (hj : ixN xs.length k = some j) : wp (setC (.c n) (.d (.int k)) (.d v)) S Q ↔ Q () (S.set n (.lst (xs.set j v))) := by
  have e : setC (.c n) (.d (.int k)) (.d v) S = .ok () (S.set n (.lst (xs.set j v))) := by
    unfold setC
    simp only [hn, hj]
  refine ⟨fun ⟨a, S', e', q⟩ => ?_, fun q => ⟨(), _, e, q⟩⟩
  rw [e] at e'
  cases e'
  exact q
theorem w_put0 {v : D} {Q : Unit → Sto → Prop} (hn : S[n]? = some (.lst [x, y, z])) : wp (setC (.c n) (.d (.int 0)) (.d v)) S Q ↔ Q () (S.set n (.lst [v, y, z])) := w_putAt (j := 0) hn rfl
theorem w_put2 {v : D} {Q : Unit → Sto → Prop} (hn : S[n]? = some (.lst [x, y, z])) : wp (setC (.c n) (.d (.int 2)) (.d v)) S Q ↔ Q () (S.set n (.lst [x, y, v])) := w_putAt (j := 2) hn rfl
end
def Die (n : Nat) (S : Sto) : Prop := ∃ a b c, S[n]? = some (.lst [.int a, .int b, .int c])
/-- the store but for the die -/
def Drw (n : Nat) (S S' : Sto) : Prop := ∃ a b c, S' = S.set n (.lst [.int a, .int b, .int c])
theorem Drw.refl {n : Nat} {S : Sto} (h : Die n S) : Drw n S S := by
  obtain ⟨a, b, c, h⟩ := h
  refine ⟨a, b, c, ?_⟩
  obtain ⟨hn, e⟩ := List.getElem?_eq_some_iff.mp h
  rw [← e, List.set_getElem_self]
theorem Drw.trans {n : Nat} {S S1 S2 : Sto} (h : Drw n S S1) (k : Drw n S1 S2) : Drw n S S2 := by
  obtain ⟨a, b, c, rfl⟩ := h
  obtain ⟨a', b', c', rfl⟩ := k
  exact ⟨a', b', c', by rw [List.set_set]⟩
theorem Drw.die {n : Nat} {S S1 : Sto} (h : Drw n S S1) (d : Die n S) : Die n S1 := by
  obtain ⟨a, b, c, rfl⟩ := h
  obtain ⟨_, _, _, d⟩ := d
  exact ⟨a, b, c, List.getElem?_set_self (List.getElem?_eq_some_iff.mp d).1⟩
theorem Drw.len {n : Nat} {S S1 : Sto} (h : Drw n S S1) : S1.length = S.length := by
  obtain ⟨a, b, c, rfl⟩ := h
  rw [List.length_set]
theorem Drw.take {n : Nat} {S S1 : Sto} (h : Drw n S S1) : S1.take S.length = S1 := by
  rw [← h.len, List.take_length]
theorem eqD_int (x y : Int) : eqD (.int x) (.int y) = some (x == y) := rfl
theorem eqD_bl (x y : Bool) : eqD (.bl x) (.bl y) = some (x == y) := rfl
theorem w_itS {z : Str} {S : Sto} {Q : List D → Sto → Prop} : wp (itS (.d (.str z))) S Q ↔ Q (Dz.signs z) S := wp_pur
theorem w_itL {ds : List D} {S : Sto} {Q : List D → Sto → Prop} : wp (itL (.d (.lst ds))) S Q ↔ Q ds S := wp_pur
theorem w_itLs {ds : List Int} {S : Sto} {Q : List D → Sto → Prop} : wp (itL (.d (.scr ds))) S Q ↔ Q (ds.map D.int) S := wp_pur
theorem w_itT {ds : List D} {S : Sto} {Q : List D → Sto → Prop} : wp (itT (.d (.tup ds))) S Q ↔ Q ds S := wp_pur
theorem w_itR {j : Int} {S : Sto} {Q : List D → Sto → Prop} (h : -(2 ^ 62) ≤ j ∧ j < 2 ^ 62) : wp (itR [.d (.int j)]) S Q ↔ Q (dInts 0 j.toNat) S := by
  show wp (if _ then _ else _) S Q ↔ _
  rw [if_pos h]
  exact wp_pur
theorem lcL_map {α : Type} {t : Tgt} {p : Env → M Bool} {f : Env → M Vl} {ρ : Env} {k : α → D} {ρ1 : α → Env} {b : α → Bool} {v : α → D} : ∀ (l : List α), (∀ a ∈ l, gSet t (k a) ρ = pur (ρ1 a) ∧ p (ρ1 a) = pur (b a) ∧ (b a = true → f (ρ1 a) = pur (.d (v a)))) → lcL t p f ρ (l.map k) = pur ((l.filter b).map v)
  | [], _ => rfl
  | a :: l, h => by
    obtain ⟨h1, h2, h3⟩ := h a List.mem_cons_self
    have ih := lcL_map l fun x hx => h x (List.mem_cons_of_mem _ hx)
    rw [List.map_cons]
    unfold lcL
    rw [h1, bnd_ret, h2, bnd_ret]
    cases hb : b a with
    | true =>
      show bnd (f (ρ1 a)) _ = _
      rw [h3 hb, bnd_ret]
      show bnd (lcL t p f ρ (l.map k)) _ = _
      rw [ih, bnd_ret, List.filter_cons, if_pos hb]
      rfl
    | false =>
      show lcL t p f ρ (l.map k) = _
      rw [ih, List.filter_cons, if_neg (by rw [hb]; decide)]
def kTup (ds : List D) : M Vl := if ds.length ≤ 100000 then pur (.d (.tup ds)) else stuck
def kLst (ds : List D) : M Vl := if ds.length ≤ 100000 then pur (.d (.lst ds)) else stuck
theorem w_dtup {xs : List Vl} {S : Sto} {Q : Vl → Sto → Prop} : wp (dTup xs) S Q ↔ wp (opt (asDs xs) kTup) S Q := by
  unfold dTup opt
  cases asDs xs <;> exact Iff.rfl
theorem w_dlst {xs : List Vl} {S : Sto} {Q : Vl → Sto → Prop} : wp (dLst xs) S Q ↔ wp (opt (asDs xs) kLst) S Q := by
  unfold dLst opt
  cases asDs xs <;> exact Iff.rfl
theorem asDs_nil : asDs [] = some [] := rfl
theorem asDs_cons {x : D} {r : List Vl} : asDs (.d x :: r) = (asDs r).map (x :: ·) := by
  show (match asDs r with | some ds => some (x :: ds) | none => none) = _
  cases asDs r <;> rfl
theorem w_some {α β : Type} {a : α} {k : α → M β} {S : Sto} {Q : β → Sto → Prop} : wp (opt (some a) k) S Q ↔ wp (k a) S Q := Iff.rfl
theorem w_kTup {ds : List D} {S : Sto} {Q : Vl → Sto → Prop} (h : ds.length ≤ 100000) : wp (kTup ds) S Q ↔ Q (.d (.tup ds)) S := by
  unfold kTup
  rw [if_pos h]
  exact wp_pur
theorem w_kLst {ds : List D} {S : Sto} {Q : Vl → Sto → Prop} (h : ds.length ≤ 100000) : wp (kLst ds) S Q ↔ Q (.d (.lst ds)) S := by
  unfold kLst
  rw [if_pos h]
  exact wp_pur
theorem w_addL {xs ys : List D} {S : Sto} {Q : Vl → Sto → Prop} (h : xs.length + ys.length ≤ 100000) : wp (opAdd (.d (.lst xs)) (.d (.lst ys))) S Q ↔ Q (.d (.lst (xs ++ ys))) S := by
  show wp (if _ then _ else _) S Q ↔ _
  rw [if_pos h]
  exact wp_pur
theorem w_addT {xs ys : List D} {S : Sto} {Q : Vl → Sto → Prop} (h : xs.length + ys.length ≤ 100000) : wp (opAdd (.d (.tup xs)) (.d (.tup ys))) S Q ↔ Q (.d (.tup (xs ++ ys))) S := by
  show wp (if _ then _ else _) S Q ↔ _
  rw [if_pos h]
  exact wp_pur
end Dz
namespace Dz
open PySem PySem.Spec PyProof.Rows L2
def flatD : D → Bool
  | .non => true
  | .bl _ => true
  | .int _ => true
  | .str _ => true
  | _ => false
def eqF : D → D → Bool
  | .non, .non => true
  | .bl a, .bl b => a == b
  | .bl a, .int b => (if a then 1 else 0) == b
  | .int a, .bl b => a == (if b then 1 else 0)
  | .int a, .int b => a == b
  | .str a, .str b => a == b
  | _, _ => false
def keyD : D → Option Key
  | .int i => some (.inl i)
  | .str x => some (.inr x)
  | _ => none
def hasK (kvs : List (Key × D)) (k : Key) : Bool := kvs.any fun kv => decide (kv.1 = k)
def inG (a b : Vl) : M Bool := match a, b with
  | .d (.str x), .d (.str y) => pur (!(Builtin.Str.occurrences y x 0 y.length 1).isEmpty)
  | .d x, .d (.tup ds) => if flatD x && ds.all flatD then pur (ds.any (eqF · x)) else stuck
  | .d x, .d (.lst ds) => if flatD x && ds.all flatD then pur (ds.any (eqF · x)) else stuck
  | .d x, .d (.dct kvs) => opt (keyD x) fun k => pur (hasK kvs k)
  | _, _ => stuck
def cIn2 (a b : Vl) : M Vl := bnd (inG a b) fun k => pur (.d (.bl k))
def cNotIn2 (a b : Vl) : M Vl := bnd (inG a b) fun k => pur (.d (.bl (!k)))
section
variable {X : Cx}
def cut {α : Type} (xs : List α) (lo hi : Option Int) : List α := (xs.drop (HT.sIx xs.length 0 lo)).take (HT.sIx xs.length xs.length hi - HT.sIx xs.length 0 lo)
def sl (x : Vl) (lo hi : Option Int) : M Vl := match x with
  | .d (.lst ds) => pur (.d (.lst (cut ds lo hi)))
  | .d (.tup ds) => pur (.d (.tup (cut ds lo hi)))
  | .c n => bnd (getC n) fun ds => pur (.d (.lst (cut ds lo hi)))
  | .d (.str z) => if z.length ≤ 100000 then pur (.d (.str (cutS z lo hi))) else stuck
  | _ => stuck
/-- a part of a slice -/
def oNone : Env → M (Option Int) := fun _ => pur none
def asI (x : Vl) : M (Option Int) := match x with
  | .d (.int i) => pur (some i)
  | _ => stuck
def oSome (f : Env → M Vl) : Env → M (Option Int) := fun ρ => bnd (f ρ) asI
theorem PO.imp {X : Cx} {e : Option Expr} {t t' : TO} (h : PO X e t) (i : ∀ σ H Q, t' σ H Q → t σ H Q) : PO X e t' := ⟨fun pins s σ H Q I q => h.run pins s σ H Q I (i σ H Q q)⟩
theorem SlR.or {X : Cx} {r r' : V → Option Int → Option Int → Hp → VK → Prop} (h : SlR X r) (h' : SlR X r') : SlR X (fun x l u H Q => r x l u H Q ∨ r' x l u H Q) := fun pins s σ H x v vl vu lo hi sl Q I rx hs pl pu q =>
  q.elim (h pins s σ H x v vl vu lo hi sl Q I rx hs pl pu) (h' pins s σ H x v vl vu lo hi sl Q I rx hs pl pu)
def eSl (f : Env → M Vl) (l u : Env → M (Option Int)) : Env → M Vl := fun ρ => bnd (f ρ) fun x => bnd (l ρ) fun lo => bnd (u ρ) fun hi => sl x lo hi
theorem CallR.or {f : Value} {r r' : List V → Hp → VK → Prop} (h : CallR X f r) (h' : CallR X f r') : CallR X f (fun xs H Q => r xs H Q ∨ r' xs H Q) := fun pins s σ H xs us Q I rx q =>
  q.elim (h pins s σ H xs us Q I rx) (h' pins s σ H xs us Q I rx)
def tTuple (xs : List Vl) : M Vl := match xs with
  | [.d (.lst ds)] => pur (.d (.tup ds))
  | [.d (.tup ds)] => pur (.d (.tup ds))
  | [.c n] => bnd (getC n) fun ds => pur (.d (.tup ds))
  | _ => stuck
/-- the items of a list or a tuple -/
def seqOf (x : Vl) : M (List D) := match x with
  | .d (.lst ds) => pur ds
  | .d (.tup ds) => pur ds
  | .c n => getC n
  | _ => stuck
def tList (xs : List Vl) : M (List D) := match xs with
  | [x] => seqOf x
  | _ => stuck
def nCB (g : List Vl → M (List D)) (fs : Env → M (List Vl)) : Env → M (List D) := fun ρ => bnd (fs ρ) g
/-- ints -/
def intsOf : List D → Option (List Int)
  | [] => some []
  | .int i :: r => (intsOf r).map (i :: ·)
  | _ :: _ => none
theorem intsOf_eq : ∀ {ds : List D} {ns : List Int}, intsOf ds = some ns → ds = ns.map D.int
  | [], _, h => by cases h; rfl
  | d :: ds, ns, h => by
    cases d with
    | int i =>
      unfold intsOf at h
      cases q : intsOf ds with
      | none => rw [q] at h; cases h
      | some l => rw [q] at h; cases h; rw [intsOf_eq q]; rfl
    | _ => cases h
theorem intsOf_map : ∀ ns : List Int, intsOf (ns.map D.int) = some ns
  | [] => rfl
  | n :: ns => by
    show (intsOf (ns.map D.int)).map (n :: ·) = _
    rw [intsOf_map ns]
    rfl
theorem reps_ints_eq {K : KW} {F : Hp} : ∀ {ns : List Int} {vs : List V}, Reps K F (ns.map D.int) vs → vs = ns.map V.int
  | [], _, .nil => rfl
  | n :: ns, _, .cons r rs => by
    cases r
    rw [reps_ints_eq rs]
    rfl
def srt (ns : List Int) : List Int := ns.mergeSort (fun a b => decide (a ≤ b))
def bSorted (xs : List Vl) : M (List D) := match xs with
  | [x] => bnd (seqOf x) fun ds => match x, intsOf ds with
    | .d (.lst _), some ns => pur ((srt ns).map D.int)
    | .c _, some ns => pur ((srt ns).map D.int)
    | _, _ => stuck
  | _ => stuck
end
end Dz
namespace Dz
open PySem PySem.Spec PyProof.Rows L2
section
variable {X : Cx} {tg : Expr} {pos : Pos}
def bMinL : List Vl → M Vl := fun xs => match xs with
  | [.d (.int i), .d (.int j)] => pur (.d (.int (if j < i then j else i)))
  | [.d (.lst ds)] => opt (intsOf ds) fun ns => opt ns.min? fun k => pur (.d (.int k))
  | _ => stuck
theorem min_uniq {ns : List Int} {k m : Int} (h : ns.min? = some k) (h1 : m ∈ ns) (h2 : ∀ y, y ∈ ns → m ≤ y) : m = k := by
  rw [List.min?_eq_some_iff] at h
  exact Int.le_antisymm (h2 k h.1) (h.2 m h1)
theorem cm_minL (hc : X.calm = true) : CallM X Er (.builtin "min") bMinL := callM_of ((call_min2 hc).or (cr_min hc)) fun F m G S H xs vs Q w rs z => by
  unfold bMinL at z
  split at z
  · cases rs with
    | cons r1 r2 =>
    cases r2 with
    | cons r2 r3 =>
    cases r3
    cases r1
    cases r2
    exact .inl ⟨_, _, rfl, res_ok w (.int _) z⟩
  · rename_i ds
    cases rs with
    | cons r1 r2 =>
    cases r2
    cases r1 with
    | lst ha r =>
    cases qi : intsOf ds with
    | none => rw [qi] at z; exact z.elim
    | some ns =>
      rw [qi] at z
      have e := intsOf_eq qi
      subst e
      have e2 := reps_ints_eq r
      subst e2
      cases qm : ns.min? with
      | none => unfold opt at z; simp only [] at z; rw [qm] at z; exact z.elim
      | some k =>
        unfold opt at z; simp only [] at z; rw [qm] at z
        refine .inr ⟨_, ns, rfl, w.sub.seq (SqL.of ha), ?_, fun m h1 h2 => ?_⟩
        · cases ns with
          | nil => cases qm
          | cons => simp
        · rw [min_uniq qm h1 h2]
          exact res_ok w (.int _) z
  · exact z.elim
def zipD (a b : List D) : List D := (a.zip b).map fun p => D.tup [p.1, p.2]
def itZ (xs : List Vl) : M (List D) := match xs with
  | [.d (.lst a), .d (.lst b)] => pur (zipD a b)
  | [.d (.tup a), .d (.tup b)] => pur (zipD a b)
  | _ => stuck
def iZp (fs : Env → M (List Vl)) : Env → M (List D) := fun ρ => bnd (fs ρ) itZ
def dDown (lo : Int) (n : Nat) : List D := (List.range n).map fun (i : Nat) => D.int (lo - (i : Int))
def itR3 (xs : List Vl) : M (List D) := match xs with
  | [.d (.int i), .d (.int j), .d (.int c)] => if ((-(2 ^ 62) ≤ i ∧ i < 2 ^ 62) ∧ -(2 ^ 62) ≤ j ∧ j < 2 ^ 62) ∧ c = -1 then pur (dDown i (i - j).toNat) else stuck
  | _ => stuck
def iRg3 (fs : Env → M (List Vl)) : Env → M (List D) := fun ρ => bnd (fs ρ) itR3
end
def putD (kvs : List (Key × D)) (k : Key) (d : D) : List (Key × D) := if (kvs.any fun kv => decide (kv.1 = k)) = true then kvs.map (fun kv => if kv.1 = k then (kv.1, d) else kv) else kvs ++ [(k, d)]
theorem RepK.anyk {K : KW} {F : Hp} {k : Key} : ∀ {kvs : List (Key × D)} {vs : List (Key × V)}, RepK K F kvs vs → (vs.any fun kv => decide (kv.1 = k)) = (kvs.any fun kv => decide (kv.1 = k))
  | _, _, .nil => rfl
  | _, _, .cons r rs => by rw [List.any_cons, List.any_cons, RepK.anyk rs]
theorem RepK.mapk {K : KW} {F : Hp} {k : Key} {d : D} {v : V} (q : Rep K F d v) : ∀ {kvs : List (Key × D)} {vs : List (Key × V)}, RepK K F kvs vs → RepK K F (kvs.map fun kv => if kv.1 = k then (kv.1, d) else kv) (vs.map fun kv => if kv.1 = k then (kv.1, v) else kv)
  | _, _, .nil => .nil
  | _, _, .cons (k := k0) r rs => by
    rw [List.map_cons, List.map_cons]
    by_cases h : k0 = k
    · rw [if_pos h, if_pos h]; exact .cons q (RepK.mapk q rs)
    · rw [if_neg h, if_neg h]; exact .cons r (RepK.mapk q rs)
theorem RepK.append {K : KW} {F : Hp} : ∀ {kvs : List (Key × D)} {vs : List (Key × V)} {es : List (Key × D)} {us : List (Key × V)}, RepK K F kvs vs → RepK K F es us → RepK K F (kvs ++ es) (vs ++ us)
  | _, _, _, _, .nil, h => h
  | _, _, _, _, .cons r rs, h => .cons r (rs.append h)
theorem RepK.put {K : KW} {F : Hp} {k : Key} {d : D} {v : V} {kvs : List (Key × D)} {vs : List (Key × V)} (r : RepK K F kvs vs) (q : Rep K F d v) : RepK K F (putD kvs k d) (putK vs k v) := by
  unfold putD putK
  rw [r.anyk]
  split
  · exact r.mapk q
  · exact r.append (.cons q .nil)
theorem RepK.length {K : KW} {F : Hp} : ∀ {kvs : List (Key × D)} {vs : List (Key × V)}, RepK K F kvs vs → kvs.length = vs.length
  | _, _, .nil => rfl
  | _, _, .cons _ r => congrArg (· + 1) r.length
/-- what is still to come -/
def RestD (K : KW) (G : Hp) (Q : VK) (F : Hp) (m : List Addr) (r : R (List (Key × D))) : Prop := match r with
  | .ok rs S' => ∀ (F' : Hp) (m' : List Addr) (H' : Hp) (q : Addr) (vs : List (Key × V)), Ext F F' m m' → Wd K F' m' (upd G q (.dK vs)) S' H' → G q = none → RepK K F' rs vs → Q (.ref q) H'
  | .err _ _ => False
  | .no => False
theorem RestD.ext {K : KW} {G : Hp} {Q : VK} {F F1 : Hp} {m m1 : List Addr} {r : R (List (Key × D))} (e : Ext F F1 m m1) (h : RestD K G Q F m r) : RestD K G Q F1 m1 r := by
  unfold RestD at h ⊢
  split
  · exact fun F' m' H' q vs e' => h F' m' H' q vs (e.trans e')
  · exact h
  · exact h
section
variable {X : Cx} {pos : Pos}
def sPar (i j : Nat) (fs : Env → M (List Vl)) : Env → M Out := fun ρ => bnd (fs ρ) fun xs => match xs with
  | [x, y] => pur (.nx ((ρ.set i (some x)).set j (some y)))
  | _ => stuck
theorem ms_par {i j : Nat} {x y : Str} {a b : Expr} {fs : Env → M (List Vl)} {px py pt : Pos} {kt k2 pt2} (hc : X.calm = true) (hN : X.N.Nodup) (hi : X.N[i]? = some x) (hj : X.N[j]? = some y) (hij : i ≠ j)
    (hx : X.env.scope.names.lookup x = some .local) (hy : X.env.scope.names.lookup y = some .local) (ha : MA X Er [a, b] fs)
    (hw : swappedStores [.Tuple [.Name x px, .Name y py] kt pt] (.Tuple [a, b] k2 pt2) X.env = pure (some [x, y]) := by rfl)
    (hs : swapsWithSole [.Tuple [.Name x px, .Name y py] kt pt] (.Tuple [a, b] k2 pt2) pos.line X.env = pure false := by rfl) :
    MS X Er (.Assign [.Tuple [.Name x px, .Name y py] kt pt] (.Tuple [a, b] k2 pt2) pos) (sPar i j fs) := PS.imp (ps_par hc hN hi hj hij hx hy ha hw hs) fun D σ H ⟨F, m, G, S, ρ, w, r, z⟩ => by
  refine rd_mono (rd_bndS (A := rVs X.kw) w r z) fun vs H1 ⟨F1, m1, S1, xs, e1, w1, r1, ra, q1⟩ => ?_
  split at q1
  · cases ra with
    | cons t1 t2 =>
    cases t2 with
    | cons t2 t3 =>
    cases t3
    exact ⟨_, _, rfl, q1 F1 m1 H1 (Ext.refl _ _) w1 _ ((r1.set t1 i).set t2 j)⟩
  · exact q1.elim
/-- target = value -/
def sAsg (f : Env → M Vl) (t : Tgt) : Env → M Out := fun ρ => bnd (f ρ) fun x => bnd (asD x) fun d => bnd (gSet t d ρ) fun ρ1 => pur (.nx ρ1)
end
end Dz
namespace Dz
open PySem PySem.Spec PyProof.Rows L2
def insOf (x : Vl) : M (Str × List (Str × D)) := fun S => match x with
  | .d (.ins c fs) => .ok (c, fs) S
  | .c n => match S[n]? with
    | some (.ins c fs) => .ok (c, fs) S
    | _ => .no
  | _ => .no
def fld (cs : List Str) (f : Str) (x : Vl) : M Vl := bnd (insOf x) fun p => if p.1 ∈ cs then opt (p.2.lookup f) fun d => pur (.d d) else stuck
def eFld (cs : List Str) (f : Str) (g : Env → M Vl) : Env → M Vl := fun ρ => bnd (g ρ) (fld cs f)
def putFD (f : Str) (d : D) : List (Str × D) → List (Str × D)
  | [] => [(f, d)]
  | (g, x) :: r => if g = f then (g, d) :: r else (g, x) :: putFD f d r
theorem RepF.put {K : KW} {F : Hp} {f : Str} {d : D} {v : V} (q : Rep K F d v) : ∀ {fs : List (Str × D)} {vs : List (Str × V)}, RepF K F fs vs → RepF K F (putFD f d fs) (putF f v vs)
  | _, _, .nil => .cons q .nil
  | _, _, .cons (k := k) r rs => by
    unfold putFD putF
    by_cases h : k = f
    · rw [if_pos h, if_pos h]; exact .cons q rs
    · rw [if_neg h, if_neg h]; exact .cons r (RepF.put q rs)
/-- o.f = v, o a young instance -/
def stF (cs : List Str) (f : Str) (o v : Vl) : M Unit := fun S => match o, v with
  | .c n, .d d => match S[n]? with
    | some (.ins c fs) => if c ∈ cs ∧ fs.length < 1000 then .ok () (S.set n (.ins c (putFD f d fs))) else .no
    | _ => .no
  | _, _ => .no
def sFd (cs : List Str) (f : Str) (o v : Env → M Vl) : Env → M Out := fun ρ => bnd (v ρ) fun y => bnd (o ρ) fun x => bnd (stF cs f x y) fun _ => pur (.nx ρ)
def frzI (n : Nat) (S : Sto) : R Vl := match S[n]? with
  | some (.ins c fs) => .ok (.d (.ins c fs)) (S.take n)
  | _ => .no
def mkI (c : Str) (φ : List Vl → M Vl) (xs : List Vl) : M Vl := fun S => match φ (.c S.length :: xs) (S ++ [.ins c []]) with
  | .ok (.d .non) S' => frzI S.length S'
  | .ok _ _ => .no
  | .err x S' => .err x (S'.take S.length)
  | .no => .no
def eMk (c : Str) (φ : List Vl → M Vl) (fs : Env → M (List Vl)) : Env → M Vl := fun ρ => bnd (fs ρ) (mkI c φ)
def isI (c : Str) (x : Vl) : M Unit := bnd (insOf x) fun p => if p.1 = c then pur () else stuck
def isM (c m : Str) (x : Vl) : M Unit := bnd (insOf x) fun p => if p.1 = c ∧ p.2.lookup m = none then pur () else stuck
def ePro (c : Str) (φ : List Vl → M Vl) (g : Env → M Vl) : Env → M Vl := fun ρ => bnd (g ρ) fun x => bnd (isI c x) fun _ => noE (φ [x])
def eMet (c m : Str) (φ : List Vl → M Vl) (g : Env → M Vl) (fs : Env → M (List Vl)) : Env → M Vl := fun ρ => bnd (g ρ) fun x => bnd (isM c m x) fun _ => bnd (fs ρ) fun xs => φ (x :: xs)
end Dz
namespace Dz
open PySem PySem.Spec PyProof.Rows L2
inductive Ty where
  | bt (T : String) | ow (c : Str)
  deriving DecidableEq
def Ty.val (K : Frag) : Ty → Value
  | .bt T => .type T
  | .ow c => .ref (He.ga K c)
def tyD : D → Option Ty
  | .ins c _ => some (.ow c)
  | d => (tyN d).map .bt
def tyM (x : Vl) : M Ty := fun S => match x with
  | .d d => match tyD d with
    | some t => .ok t S
    | none => .no
  | .c n => match S[n]? with
    | some (.lst _) => .ok (.bt "list") S
    | some (.ins c _) => .ok (.ow c) S
    | _ => .no
/-- == by an own class's __eq__: the other one of one of these types -/
def dunEq (c : Str) (tys : List Ty) (φ : List Vl → M Vl) (g : Vl → Vl → M Vl) (a b : Vl) : M Vl := match a with
  | .d (.ins c' fs) => if c' = c then bnd (tyM b) fun t => if t ∈ tys then noE (φ [.d (.ins c' fs), b]) else stuck else stuck
  | a => g a b
def notB (x : Vl) : M Vl := match x with
  | .d (.bl k) => pur (.d (.bl (!k)))
  | _ => stuck
def dunNe (c : Str) (tys : List Ty) (φ : List Vl → M Vl) (g : Vl → Vl → M Vl) (a b : Vl) : M Vl := match a with
  | .d (.ins c' fs) => if c' = c then bnd (tyM b) fun t => if t ∈ tys then bnd (noE (φ [.d (.ins c' fs), b])) notB else stuck else stuck
  | a => g a b
def isB (x : Vl) : M Vl := match x with
  | .d (.bl k) => pur (.d (.bl k))
  | _ => stuck
def dunIn (c : Str) (φ : List Vl → M Vl) (g : Vl → Vl → M Vl) (a b : Vl) : M Vl := match b with
  | .d (.ins c' fs) => if c' = c then bnd (noE (φ [.d (.ins c' fs), a])) isB else stuck
  | b => g a b
end Dz
namespace Dz
open PySem PySem.Spec PyProof.Rows L2
end Dz
namespace Dz
open PySem PySem.Spec PyProof.Rows L2
section
variable {X : Cx} {c : Str} {φ : List Vl → M Vl} {k : Nat} {f : Addr}
/-- .. by an own class's __bool__ -/
def tBoolX (c : Str) (φ : List Vl → M Vl) (g : List Vl → M Vl) (xs : List Vl) : M Vl := match xs with
  | [.d (.ins c' fs)] => if c' = c then bnd (noE (φ [.d (.ins c' fs)])) isB else stuck
  | xs => g xs
abbrev Tab := List (Ty × Ty × Bool)
def tabAt : Tab → Ty → Ty → Option Bool
  | [], _, _ => none
  | (t, u, b) :: r, t', u' => if t = t' ∧ u = u' then some b else tabAt r t' u'
def TabOk (K : Frag) (tab : Tab) : Prop := ∀ p ∈ tab, PySem.W.kitOne K (p.1.val K) (p.2.1.val K) = some p.2.2
theorem tabAt_ok {K : KW} {t u : Ty} {b : Bool} : ∀ {tab : Tab}, TabOk K tab → tabAt tab t u = some b → PySem.W.kitOne K (t.val K) (u.val K) = some b
  | [], _, h => by cases h
  | (t', u', b') :: r, ok, h => by
    unfold tabAt at h
    split at h
    · rename_i e
      obtain ⟨rfl, rfl⟩ := e
      cases h
      exact ok _ List.mem_cons_self
    · exact tabAt_ok (fun p hp => ok p (List.mem_cons_of_mem _ hp)) h
def clT : D → Option Ty
  | .ty T => some (.bt T)
  | .cls c => some (.ow c)
  | _ => none
def shwOk (p : PyData) : Bool := PyData.showable p && (!PyData.hasDict p && (decide (PyData.depth p ≤ 100) && decide (p.shown.length ≤ 100000)))
def bReprX (xs : List Vl) : M Vl := match xs with
  | [.d x] => opt (pyOf x) fun p => if shwOk p = true then pur (.d (.str p.shown)) else stuck
  | _ => stuck
theorem cm_reprG (gd : X.A.guards = some []) (hu : X.A.units + 200 < cLine) : CallM X Er (.builtin "repr") bReprX := fun pins s σ H vs us Q I rx ⟨F, m, Gh, S, xs, w, ra, z⟩ => by
  unfold bReprX at z
  split at z
  · rename_i x
    cases ra with
    | cons r1 r2 =>
    cases r2
    obtain ⟨p, hp, z⟩ := res_opt z
    by_cases hs : shwOk p = true
    · rw [if_pos hs] at z
      unfold shwOk at hs
      simp only [Bool.and_eq_true, Bool.not_eq_true', decide_eq_true_eq] at hs
      obtain ⟨h1, h2, h3, h4⟩ := hs
      have dp := pyOf_dp w.sub r1 hp
      obtain ⟨u, rfl, ru⟩ := vals1 rx
      have q := res_ok w (.str _) z
      have sz : p.shown.length ≤ sizeLine := sz5 h4
      obtain ⟨as, rd⟩ := dp.reads I _ _ _ ru
      have fin : ∀ h' tk, (∀ b o, s.heap.get? b = some o → h'.get? b = some o) → ∀ t, EP X pins σ Q (.str p.shown t) { s with heap := h', toks := tk } := fun h' tk hk t => ⟨.str _, H, I.kept hk, ⟨t, rfl⟩, q⟩
      cases rd with
      | none => exact PySem.P.repr_of_none (fin _ _ (fun _ _ e => e) _)
      | bool b => exact PySem.P.repr_of_bool (fin _ _ (fun _ _ e => e) _)
      | int i t => exact PySem.P.repr_of_int (of_decide_eq_true h1) (fin _ _ (fun _ _ e => e) _)
      | str x t => exact PySem.P.repr_of_str (fin _ _ (fun _ _ e => e) _) sz
      | list a b c d => exact repr_of_reads' (.list a b c d) h1 (PyData.noDict_hsm h2) gd (by omega) (fun _ _ e => e) (fun h' u tk hk => fin h' tk hk u) sz
      | tuple a b c d => exact repr_of_reads' (.tuple a b c d) h1 (PyData.noDict_hsm h2) gd (by omega) (fun _ _ e => e) (fun h' u tk hk => fin h' tk hk u) sz
      | dict a b c d e => cases h2
    · rw [if_neg hs] at z; exact z.elim
  · exact z.elim
end
end Dz
namespace Dz
open PySem PySem.Spec PyProof.Rows L2
inductive Ad where
  | g (x : Str) | m (c f : Str) | p (c f : Str) | k (c f : Str)
def recF (K : Frag) (a : Addr) (T : String) : Addr := match PySem.W.recIn K a T with
  | some (.ref g :: _) => g
  | _ => 0
def Ad.at (K : Frag) : Ad → Addr
  | .g x => He.ga K x
  | .m c f => He.ma K (He.ga K c) f
  | .p c f => recF K (He.ma K (He.ga K c) f) "property"
  | .k c f => recF K (He.ma K (He.ga K c) f) "classmethod"
structure DefZ where
  ad : Ad
  name : Str
  qual : Str
  params : Arguments
  body : List Stmt
  scope : Scope
/-- the def that an object is, if it is one -/
def defOf : Obj → Option FuncData
  | ⟨_, _, .func f, _⟩ => some f
  | _ => none
/-- the def that stands at an address -/
def defAt (K : Frag) (a : Addr) : Option FuncData := (K.lookup a).bind defOf
/-- what a hook reads of a def -/
def face (f : FuncData) : He.FnW :=
  some (f.name, f.qualname, f.params, f.body,
    f.scope, f.globals, f.closure, f.builtins)
def fnZ (K : Frag) (a : Addr) : He.FnW := (defAt K a).bind face
def DefZ.val (d : DefZ) : He.FnW := some (d.name, d.qual, d.params, .stmts d.body, d.scope, mainGlobals, [], builtinsNs)
/-- a def with no default at all, and its own code -/
def plainDef (K : Frag) (q : Str) (f : FuncData) : Bool := PySem.W.codeIn K f.code q && (He.dflB K f.defaults [] && He.kwdB K f.kwdefaults [])
def DefZ.ok (K : Frag) (d : DefZ) : Bool := (defAt K (d.ad.at K)).any (plainDef K d.qual)
theorem defAt_get {K : Frag} {a : Addr} {f : FuncData} (e : defAt K a = some f) : ∃ c d sl, K.lookup a = some ⟨c, d, .func f, sl⟩ := by
  obtain ⟨⟨c, d, t, sl⟩, q, e⟩ := Option.bind_eq_some_iff.mp e
  cases t with
  | func g => cases e; exact ⟨c, d, sl, q⟩
  | _ => cases e
theorem DefZ.funD {K : Frag} {d : DefZ} (e : fnZ K (d.ad.at K) = d.val) (c : d.ok K = true) : ∃ fd, FunD K d.name d.qual d.params d.body d.scope [] [] (d.ad.at K) fd := by
  obtain ⟨ad, name, qual, params, body, scope⟩ := d
  obtain ⟨f, q, e⟩ := Option.bind_eq_some_iff.mp e
  have c : plainDef K qual f = true := by
    unfold DefZ.ok at c
    rw [q] at c
    exact c
  obtain ⟨oc, od, osl, l⟩ := defAt_get q
  cases f
  cases e
  obtain ⟨code, kinds⟩ := He.ba c
  obtain ⟨dfl, kwd⟩ := He.ba kinds
  refine ⟨_, ⟨oc, od, _, _, _, _, _, _, _, osl, rfl, l, code, He.dflB_ok dfl, He.kwdB_ok kwd⟩, ?_⟩
  unfold PySem.W.keepIn
  simp only [l]
mutual
def repB (K : Frag) : D → Value → Bool
  | .non, .none => true
  | .bl b, .bool c => b == c
  | .int i, .int j _ => i == j
  | .str i, .str j _ => i == j
  | .tup ds, .ref a => match K.lookup a with
    | some ⟨.type c, _, .seq its _, _⟩ => decide (c = "tuple") && (decide (its.size ≤ sizeLine) && repBs K ds its.toList)
    | _ => false
  | _, _ => false
def repBs (K : Frag) : List D → List Value → Bool
  | [], [] => true
  | d :: ds, u :: us => repB K d u && repBs K ds us
  | _, _ => false
end
inductive Fz where
  | fa (f : He.Fa)
  | con (x : Str) (d : D)
  | prop (c f : Str)
  | cmet (c f : Str)
  | cread (c : Str)
  | dun (c f : Str)
  | clsf (c : Str)
  | nec (c : Str)
  | notf (c : Str) (t : Ty)
  | tab (t u : Ty) (b : Bool)
  | first (c : Str)
  | chk (f : Frag → Bool)
/-- a name that is bound, to a value that passes -/
def bound (p : Value → Bool) : Option (Option Value) → Bool
  | some (some u) => p u
  | _ => false
def Fz.ok (K : Frag) : Fz → Bool
  | .fa f => f.ok K
  | .con x d => bound (repB K d) (PySem.W.nsIn K mainGlobals x)
  | .prop c f => He.eqO (PySem.W.findIn K (.ref (He.ga K c)) f) (some (some (.ref (He.ma K (He.ga K c) f)))) && (He.eqO (PySem.W.specialIn K (.ref (He.ma K (He.ga K c) f)) "__get__") (some (some (.builtin "property.__get__"))) &&
    (decide (PySem.W.takesIn K (.ref (He.ma K (He.ga K c) f)) = some true) && (match PySem.W.recIn K (He.ma K (He.ga K c) f) "property" with
      | some (.ref g :: _) => true
      | _ => false)))
  | .cmet c f => (match PySem.W.findCls K (.ref (He.ga K c)) (.type "type") f with
    | some (.get a b d e) => decide (a = .builtin "classmethod.__get__") && (decide (b = .ref (He.ma K (He.ga K c) f)) && (decide (d = .none) && decide (e = .ref (He.ga K c))))
    | _ => false) && ((match PySem.W.recIn K (He.ma K (He.ga K c) f) "classmethod" with
      | some (.ref g :: _) => PySem.W.fnIn K g
      | _ => false))
  | .cread c => PySem.W.readsIn K (He.ga K c) (.type "type") && He.eqO (PySem.W.specialIn K (.ref (He.ga K c)) "__getattribute__") (some (some (.builtin "type.__getattribute__")))
  | .dun c f => He.eqO (PySem.W.findIn K (.ref (He.ga K c)) f) (some (some (.ref (He.ma K (He.ga K c) f)))) && PySem.W.isFn K (.ref (He.ma K (He.ga K c) f))
  | .clsf c => He.eqO (PySem.W.findIn K (.ref (He.ga K c)) "__class__") (some (some (.builtin "object.__class__"))) && (He.eqO (PySem.W.specialIn K (.builtin "object.__class__") "__get__") (some (some (.builtin "getset_descriptor.__get__"))) &&
    (decide (PySem.W.takesIn K (.builtin "object.__class__") = some true) && decide (PySem.W.mroIn K (He.ga K c) (.type "object") = some true)))
  | .nec c => He.eqO (PySem.W.findIn K (.ref (He.ga K c)) "__ne__") (some (some (.builtin "object.__ne__"))) && decide (PySem.W.subIn K (.ref (He.ga K c)) (.type "object") = some true)
  | .notf c t => PySem.W.notFirst K (He.ga K c) (t.val K)
  | .tab t u b => decide (PySem.W.kitOne K (t.val K) (u.val K) = some b)
  | .first c => PySem.W.selfFirst K (He.ga K c)
  | .chk f => f K
section
variable {K : Frag} {h : Heap} {mg : Str → Option Value}
theorem chk_ok {f : Frag → Bool} (z : (Fz.chk f).ok K = true) : f K = true := z
end
abbrev AlZ : Type := Bool × List He.FnW
def obsZ (fz : List Fz) (fn : List DefZ) (K : Frag) : AlZ := ((fz.all fun f => f.ok K) && fn.all fun d => d.ok K, fn.map fun d => fnZ K (d.ad.at K))
def valZ (fn : List DefZ) : AlZ := (true, fn.map DefZ.val)
def SaysZ (fz : List Fz) (fn : List DefZ) (K : Frag) : Prop := obsZ fz fn K = valZ fn
/-- the tables of the makers of lambdas are there, with nothing in them -/
def emptB (g : Addr → Option Obj) (K : Frag) : Bool := (csL K).all fun p => (g p.2).any He.emptyTab
theorem emptB_ok {h : Heap} {K : Frag} (e : emptB h.get? K = true) : Empt K h := fun p hp => by
  have z := List.all_eq_true.mp e p hp
  cases q : h.get? p.2 with
  | none => rw [q] at z; cases z
  | some o => rw [q] at z; rw [He.emptyTab_eq (show He.emptyTab o = true from z)]
/-- the heap's written objects hold what was asked -/
def HoldsZ (fz : List Fz) (fn : List DefZ) (h : Heap) : Prop := ∃ K : Frag, (K.In h ∧ Empt K h) ∧ SaysZ fz fn K
theorem HoldsZ.stay {fz : List Fz} {fn : List DefZ} {h h' : Heap} (p : HoldsZ fz fn h) (k : ∀ a o, h.get? a = some o → h'.get? a = some o) : HoldsZ fz fn h' := by
  obtain ⟨K, ⟨i, em⟩, c⟩ := p
  exact ⟨K, ⟨i.keeps k, fun p hp => k _ _ (em p hp)⟩, c⟩
section
variable {fz : List Fz} {fn : List DefZ} {K : Frag}
theorem SaysZ.both (c : SaysZ fz fn K) : (∀ f ∈ fz, f.ok K = true) ∧ ∀ d ∈ fn, d.ok K = true := by
  obtain ⟨p, q⟩ := He.ba (congrArg Prod.fst c : ((fz.all fun f => f.ok K) && fn.all fun d => d.ok K) = true)
  exact ⟨List.all_eq_true.mp p, List.all_eq_true.mp q⟩
theorem SaysZ.fact (c : SaysZ fz fn K) (i : Nat) {f : Fz} (h : fz[i]? = some f := by rfl) : f.ok K = true :=
  c.both.1 f (List.mem_of_getElem? h)
theorem SaysZ.def_ (c : SaysZ fz fn K) (i : Nat) {d : DefZ} (h : fn[i]? = some d := by rfl) : ∃ fd, FunD K d.name d.qual d.params d.body d.scope [] [] (d.ad.at K) fd := by
  have e : (fn.map fun d => fnZ K (d.ad.at K))[i]? = (fn.map DefZ.val)[i]? := congrArg (fun z : AlZ => z.2[i]?) c
  simp only [List.getElem?_map, h, Option.map_some, Option.some.injEq] at e
  exact DefZ.funD e (c.both.2 d (List.mem_of_getElem? h))
end
end Dz
namespace Dz
open PySem PySem.Spec PyProof.Rows L2
section
variable {X : Cx} {tg e : Expr} {f : Env → M Vl}
theorem PI.or {t t' : TI} (h : PI X tg e t) (h' : PI X tg e t') : PI X tg e (fun σ H R => t σ H R ∨ t' σ H R) := ⟨fun pins s σ H R I q => q.elim (h.run pins s σ H R I) (h'.run pins s σ H R I)⟩
def itA (x : Vl) : M (List D) := match x with
  | .d (.lst ds) => pur ds
  | .d (.scr ns) => pur (ns.map D.int)
  | .d (.tup ds) => pur ds
  | .d (.str z) => pur (signs z)
  | _ => stuck
theorem mi_any (h : ME X Er e f) : MI X Er tg e (iOf itA f) := PI.imp (PI.or (mi_list h) (PI.or (mi_tup h) (mi_str h))) fun σ H Rr ⟨F, m, G, S, ρ, w, r, z⟩ => by
  have mk : ∀ g : Vl → M (List D), (∀ x S1, f ρ S = .ok x S1 → itA x S1 = g x S1) → tI X.kw Er (iOf g f) σ H Rr := fun g hg => ⟨F, m, G, S, ρ, w, r, by
    unfold iOf bnd at z ⊢
    cases q : f ρ S with
    | err => rw [q] at z; exact z
    | no => rw [q] at z; exact z
    | ok x S1 => rw [q] at z; simp only [] at z ⊢; rw [← hg x S1 q]; exact z⟩
  cases q : f ρ S with
  | err => exact .inl (mk itL fun x S1 h => by rw [q] at h; cases h)
  | no => exact .inl (mk itL fun x S1 h => by rw [q] at h; cases h)
  | ok x S1 =>
    have one : ∀ g : Vl → M (List D), itA x S1 = g x S1 → tI X.kw Er (iOf g f) σ H Rr := fun g e => mk g fun x' S' h => by rw [q] at h; cases h; exact e
    cases x with
    | c n => exact .inl (one itL rfl)
    | d x =>
      cases x with
      | tup ds => exact .inr (.inl (one itT rfl))
      | str z => exact .inr (.inr (one itS rfl))
      | _ => exact .inl (one itL rfl)
end
section
variable {f g h : Env → M Vl} {fs : Env → M (List Vl)} {ρ : Env} {S : Sto} {p : Env → M Bool}
theorem w_sl {l u : Env → M (Option Int)} {Q : Vl → Sto → Prop} : wp (eSl f l u ρ) S Q ↔ wp (f ρ) S fun x S => wp (l ρ) S fun lo S => wp (u ρ) S fun hi S => wp (sl x lo hi) S Q := by
  unfold eSl
  simp only [wp_bnd]
theorem w_oNone {Q : Option Int → Sto → Prop} : wp (oNone ρ) S Q ↔ Q none S := wp_pur
theorem w_oSome {Q : Option Int → Sto → Prop} : wp (oSome f ρ) S Q ↔ wp (f ρ) S fun x S => wp (asI x) S Q := wp_bnd
theorem w_asI {i : Int} {Q : Option Int → Sto → Prop} : wp (asI (.d (.int i))) S Q ↔ Q (some i) S := wp_pur
theorem w_slL {ds : List D} {lo hi : Option Int} {Q : Vl → Sto → Prop} : wp (sl (.d (.lst ds)) lo hi) S Q ↔ Q (.d (.lst (cut ds lo hi))) S := wp_pur
theorem w_slT {ds : List D} {lo hi : Option Int} {Q : Vl → Sto → Prop} : wp (sl (.d (.tup ds)) lo hi) S Q ↔ Q (.d (.tup (cut ds lo hi))) S := wp_pur
theorem w_zp {Q : List D → Sto → Prop} : wp (iZp fs ρ) S Q ↔ wp (fs ρ) S fun xs S => wp (itZ xs) S Q := wp_bnd
theorem w_itZL {a b : List D} {Q : List D → Sto → Prop} : wp (itZ [.d (.lst a), .d (.lst b)]) S Q ↔ Q (zipD a b) S := wp_pur
theorem w_itZT {a b : List D} {Q : List D → Sto → Prop} : wp (itZ [.d (.tup a), .d (.tup b)]) S Q ↔ Q (zipD a b) S := wp_pur
theorem w_rg3 {Q : List D → Sto → Prop} : wp (iRg3 fs ρ) S Q ↔ wp (fs ρ) S fun xs S => wp (itR3 xs) S Q := wp_bnd
theorem w_itR2 {i j : Int} {Q : List D → Sto → Prop} (h : (-(2 ^ 62) ≤ i ∧ i < 2 ^ 62) ∧ -(2 ^ 62) ≤ j ∧ j < 2 ^ 62) : wp (itR [.d (.int i), .d (.int j)]) S Q ↔ Q (dInts i (j - i).toNat) S := by
  show wp (if _ then _ else _) S Q ↔ _
  rw [if_pos h, wp_pur]
theorem w_par {i j : Nat} {Q : Out → Sto → Prop} : wp (sPar i j fs ρ) S Q ↔ wp (fs ρ) S fun xs S => wp (match xs with | [x, y] => pur (.nx ((ρ.set i (some x)).set j (some y))) | _ => stuck) S Q := wp_bnd
theorem w_asg {t : Tgt} {Q : Out → Sto → Prop} : wp (sAsg f t ρ) S Q ↔ wp (f ρ) S fun x S => wp (asD x) S fun d S => wp (gSet t d ρ) S fun ρ1 S => Q (.nx ρ1) S := by
  unfold sAsg
  simp only [wp_bnd, wp_pur]
theorem w_asD {d : D} {Q : D → Sto → Prop} : wp (asD (.d d)) S Q ↔ Q d S := wp_pur
theorem w_fld {cs : List Str} {x : Str} {Q : Vl → Sto → Prop} : wp (eFld cs x f ρ) S Q ↔ wp (f ρ) S fun o S => wp (fld cs x o) S Q := wp_bnd
theorem w_fldD {cs : List Str} {x c : Str} {fl : List (Str × D)} {d : D} {Q : Vl → Sto → Prop} (h1 : c ∈ cs) (h2 : fl.lookup x = some d) : wp (fld cs x (.d (.ins c fl))) S Q ↔ Q (.d d) S := by
  have e : fld cs x (.d (.ins c fl)) S = .ok (.d d) S := by
    show (if c ∈ cs then opt (fl.lookup x) (fun d => pur (Vl.d d)) else stuck) S = _
    rw [if_pos h1, h2]
    rfl
  exact ⟨fun ⟨a, S', h, q⟩ => by rw [e] at h; cases h; exact q, fun q => ⟨_, _, e, q⟩⟩
theorem w_fldC {cs : List Str} {x c : Str} {n : Nat} {fl : List (Str × D)} {d : D} {Q : Vl → Sto → Prop} (h0 : S[n]? = some (.ins c fl)) (h1 : c ∈ cs) (h2 : fl.lookup x = some d) : wp (fld cs x (.c n)) S Q ↔ Q (.d d) S := by
  have e : fld cs x (.c n) S = .ok (.d d) S := by
    unfold fld bnd insOf
    simp only []
    rw [h0]
    simp only []
    rw [if_pos h1, h2]
    rfl
  exact ⟨fun ⟨a, S', h, q⟩ => by rw [e] at h; cases h; exact q, fun q => ⟨_, _, e, q⟩⟩
theorem w_sfd {cs : List Str} {x : Str} {Q : Out → Sto → Prop} : wp (sFd cs x f g ρ) S Q ↔ wp (g ρ) S fun y S => wp (f ρ) S fun o S => wp (stF cs x o y) S fun _ S => Q (.nx ρ) S := by
  unfold sFd
  simp only [wp_bnd, wp_pur]
theorem w_stF {cs : List Str} {x c : Str} {n : Nat} {fl : List (Str × D)} {d : D} {Q : Unit → Sto → Prop} (h0 : S[n]? = some (.ins c fl)) (h1 : c ∈ cs) (h2 : fl.length < 1000) : wp (stF cs x (.c n) (.d d)) S Q ↔ Q () (S.set n (.ins c (putFD x d fl))) := by
  have e : stF cs x (.c n) (.d d) S = .ok () (S.set n (.ins c (putFD x d fl))) := by
    unfold stF
    simp only []
    rw [h0]
    simp only []
    rw [if_pos ⟨h1, h2⟩]
  exact ⟨fun ⟨a, S', h, q⟩ => by rw [e] at h; cases h; exact q, fun q => ⟨_, _, e, q⟩⟩
theorem w_mk {c : Str} {φ : List Vl → M Vl} {Q : Vl → Sto → Prop} : wp (eMk c φ fs ρ) S Q ↔ wp (fs ρ) S fun xs S => wp (mkI c φ xs) S Q := wp_bnd
theorem w_pro {c : Str} {φ : List Vl → M Vl} {Q : Vl → Sto → Prop} : wp (ePro c φ f ρ) S Q ↔ wp (f ρ) S fun x S => wp (isI c x) S fun _ S => wp (φ [x]) S Q := by
  unfold ePro
  simp only [wp_bnd, wp_noE]
theorem w_isI {c : Str} {fl : List (Str × D)} {Q : Unit → Sto → Prop} : wp (isI c (.d (.ins c fl))) S Q ↔ Q () S := by
  have e : isI c (.d (.ins c fl)) S = .ok () S := by
    show (if c = c then pur () else stuck) S = _
    rw [if_pos rfl]
    rfl
  exact ⟨fun ⟨a, S', h, q⟩ => by rw [e] at h; cases h; exact q, fun q => ⟨_, _, e, q⟩⟩
theorem w_met {c m : Str} {φ : List Vl → M Vl} {Q : Vl → Sto → Prop} : wp (eMet c m φ f fs ρ) S Q ↔ wp (f ρ) S fun x S => wp (isM c m x) S fun _ S => wp (fs ρ) S fun xs S => wp (φ (x :: xs)) S Q := by
  unfold eMet
  simp only [wp_bnd]
theorem w_ncb {o : List Vl → M (List D)} {Q : List D → Sto → Prop} : wp (nCB o fs ρ) S Q ↔ wp (fs ρ) S fun xs S => wp (o xs) S Q := wp_bnd
theorem w_tupL {ds : List D} {Q : Vl → Sto → Prop} : wp (tTuple [.d (.lst ds)]) S Q ↔ Q (.d (.tup ds)) S := wp_pur
theorem w_tupT {ds : List D} {Q : Vl → Sto → Prop} : wp (tTuple [.d (.tup ds)]) S Q ↔ Q (.d (.tup ds)) S := wp_pur
theorem w_listL {ds : List D} {Q : List D → Sto → Prop} : wp (tList [.d (.lst ds)]) S Q ↔ Q ds S := wp_pur
theorem w_listT {ds : List D} {Q : List D → Sto → Prop} : wp (tList [.d (.tup ds)]) S Q ↔ Q ds S := wp_pur
theorem w_sorted {ns : List Int} {Q : List D → Sto → Prop} : wp (bSorted [.d (.lst (ns.map D.int))]) S Q ↔ Q ((srt ns).map D.int) S := by
  have e : bSorted [.d (.lst (ns.map D.int))] S = .ok ((srt ns).map D.int) S := by
    show (match (Vl.d (.lst (ns.map D.int))), intsOf (ns.map D.int) with
      | .d (.lst _), some ns => pur ((srt ns).map D.int)
      | .c _, some ns => pur ((srt ns).map D.int)
      | _, _ => stuck) S = _
    rw [intsOf_map]
    rfl
  exact ⟨fun ⟨a, S', h, q⟩ => by rw [e] at h; cases h; exact q, fun q => ⟨_, _, e, q⟩⟩
theorem w_minI {a b : Int} {Q : Vl → Sto → Prop} : wp (bMinL [.d (.int a), .d (.int b)]) S Q ↔ Q (.d (.int (if b < a then b else a))) S := wp_pur
theorem w_itA {ds : List D} {Q : List D → Sto → Prop} : wp (itA (.d (.lst ds))) S Q ↔ Q ds S := wp_pur
theorem w_itAt {ds : List D} {Q : List D → Sto → Prop} : wp (itA (.d (.tup ds))) S Q ↔ Q ds S := wp_pur
theorem w_itAs {ns : List Int} {Q : List D → Sto → Prop} : wp (itA (.d (.scr ns))) S Q ↔ Q (ns.map D.int) S := wp_pur
theorem w_itAz {z : Str} {Q : List D → Sto → Prop} : wp (itA (.d (.str z))) S Q ↔ Q (signs z) S := wp_pur
theorem any_ints (ns : List Int) (i : Int) : (ns.map D.int).any (eqF · (.int i)) = decide (i ∈ ns) := by
  induction ns with
  | nil => rfl
  | cons n ns ih =>
    rw [List.map_cons, List.any_cons, ih]
    show ((n == i) || _) = _
    by_cases h : n = i
    · subst h; simp
    · have h' : ¬ i = n := fun z => h z.symm
      simp [h, h', beq_iff_eq]
theorem all_ints (ns : List Int) : (ns.map D.int).all flatD = true := by
  rw [List.all_eq_true]
  intro d hd
  obtain ⟨i, _, rfl⟩ := List.mem_map.mp hd
  rfl
theorem w_inT {ns : List Int} {i : Int} {Q : Vl → Sto → Prop} : wp (cIn2 (.d (.int i)) (.d (.tup (ns.map D.int)))) S Q ↔ Q (.d (.bl (decide (i ∈ ns)))) S := by
  unfold cIn2 inG
  simp only [wp_bnd, wp_pur]
  rw [if_pos (by rw [all_ints]; rfl), wp_pur, any_ints]
theorem w_inL {ns : List Int} {i : Int} {Q : Vl → Sto → Prop} : wp (cIn2 (.d (.int i)) (.d (.lst (ns.map D.int)))) S Q ↔ Q (.d (.bl (decide (i ∈ ns)))) S := by
  unfold cIn2 inG
  simp only [wp_bnd, wp_pur]
  rw [if_pos (by rw [all_ints]; rfl), wp_pur, any_ints]
theorem w_niT {ns : List Int} {i : Int} {Q : Vl → Sto → Prop} : wp (cNotIn2 (.d (.int i)) (.d (.tup (ns.map D.int)))) S Q ↔ Q (.d (.bl (!decide (i ∈ ns)))) S := by
  unfold cNotIn2 inG
  simp only [wp_bnd, wp_pur]
  rw [if_pos (by rw [all_ints]; rfl), wp_pur, any_ints]
theorem w_inD {kvs : List (Key × D)} {i : Int} {Q : Vl → Sto → Prop} : wp (cIn2 (.d (.int i)) (.d (.dct kvs))) S Q ↔ Q (.d (.bl (hasK kvs (.inl i)))) S := by
  unfold cIn2 inG
  simp only [wp_bnd, wp_pur, keyD, w_some]
end
end Dz
namespace Dz
open PySem PySem.Spec PyProof.Rows L2
theorem all_nil {α : Type} {p : α → Prop} : ∀ x ∈ ([] : List α), p x := fun _ h => nomatch h
theorem all_cons {α : Type} {p : α → Prop} {a : α} {l : List α} (h : p a) (t : ∀ x ∈ l, p x) : ∀ x ∈ a :: l, p x := fun x hx => by
  rcases List.mem_cons.mp hx with rfl | hx
  · exact h
  · exact t x hx
end Dz
namespace Dz
open PySem PySem.Spec PyProof.Rows L2
section
variable {X : Cx}
def cEqX (a b : Vl) : M Vl := match a, b with
  | .d (.str x), .d (.str y) => pur (.d (.bl (x == y)))
  | a, b => cEq a b
def cNeX (a b : Vl) : M Vl := match a, b with
  | .d (.str x), .d (.str y) => pur (.d (.bl (!(x == y))))
  | a, b => cNe a b
theorem om_eqX (hu : X.A.units + 64 < cLine) : OpM X Er (compareOp .Eq) cEqX := fun pins s σ H x y v u Q I rx ry ⟨F, m, G, S, a, b, w, ra, rb, z⟩ => by
  have other : cEq a b S = cEqX a b S → wpAny (model X.prog X.w) X.A (compareOp .Eq v u) (EP X pins σ Q) X.xe s := fun e => om_eq hu pins s σ H x y v u Q I rx ry ⟨F, m, G, S, a, b, w, ra, rb, by rw [e]; exact z⟩
  cases a with
  | c n => exact other rfl
  | d a =>
    cases a with
    | str i =>
      cases b with
      | c n => exact other rfl
      | d b =>
        cases b with
        | str j =>
          cases ra
          cases rb
          refine op_eq pins s σ H _ _ v u Q I rx ry ⟨rfl, ?_⟩
          rw [dec_str]
          exact res_ok w (.bl _) z
        | _ => exact other rfl
    | _ => exact other rfl
theorem om_neX (hu : X.A.units + 64 < cLine) : OpM X Er (compareOp .NotEq) cNeX := fun pins s σ H x y v u Q I rx ry ⟨F, m, G, S, a, b, w, ra, rb, z⟩ => by
  have other : cNe a b S = cNeX a b S → wpAny (model X.prog X.w) X.A (compareOp .NotEq v u) (EP X pins σ Q) X.xe s := fun e => om_ne hu pins s σ H x y v u Q I rx ry ⟨F, m, G, S, a, b, w, ra, rb, by rw [e]; exact z⟩
  cases a with
  | c n => exact other rfl
  | d a =>
    cases a with
    | str i =>
      cases b with
      | c n => exact other rfl
      | d b =>
        cases b with
        | str j =>
          cases ra
          cases rb
          refine op_ne pins s σ H _ _ v u Q I rx ry ⟨rfl, ?_⟩
          rw [dec_str]
          exact res_ok w (.bl _) z
        | _ => exact other rfl
    | _ => exact other rfl
end
section
variable {S : Sto} {Q : Vl → Sto → Prop}
theorem w_eqS {x y : Str} : wp (cEqX (.d (.str x)) (.d (.str y))) S Q ↔ Q (.d (.bl (x == y))) S := wp_pur
theorem w_neS {x y : Str} : wp (cNeX (.d (.str x)) (.d (.str y))) S Q ↔ Q (.d (.bl (!(x == y)))) S := wp_pur
theorem w_eqI {a b : Int} : wp (cEqX (.d (.int a)) (.d (.int b))) S Q ↔ Q (.d (.bl (a == b))) S := w_eq (eqD_int a b)
theorem w_neI {a b : Int} : wp (cNeX (.d (.int a)) (.d (.int b))) S Q ↔ Q (.d (.bl (!(a == b)))) S := w_ne (eqD_int a b)
theorem w_eqB {a b : Bool} : wp (cEqX (.d (.bl a)) (.d (.bl b))) S Q ↔ Q (.d (.bl (a == b))) S := w_eq (eqD_bl a b)
theorem w_neB {a b : Bool} : wp (cNeX (.d (.bl a)) (.d (.bl b))) S Q ↔ Q (.d (.bl (!(a == b)))) S := w_ne (eqD_bl a b)
theorem pyOfs_ints : ∀ ns : List Int, pyOfs (ns.map D.int) = some (ns.map PyData.int)
  | [] => rfl
  | n :: ns => by
    show (match pyOf (.int n), pyOfs (ns.map D.int) with
      | some p, some ps => some (p :: ps)
      | _, _ => none) = _
    rw [pyOfs_ints ns]
    rfl
theorem canLay_ints : ∀ ns : List Int, PyData.canLayAll0 (ns.map PyData.int) = true
  | [] => by first | rfl | simp [PyData.canLayAll0]
  | n :: ns => by
    rw [List.map_cons]
    first
    | (show (PyData.canLay0 (.int n) && PyData.canLayAll0 (ns.map PyData.int)) = true; rw [canLay_ints ns]; rfl)
    | (simp only [PyData.canLayAll0, PyData.canLay0, canLay_ints ns]; rfl)
    | simp [PyData.canLayAll0, PyData.canLay0, canLay_ints ns]
theorem depth_ints : ∀ ns : List Int, PyData.depthAll (ns.map PyData.int) ≤ 1
  | [] => by first | exact Nat.zero_le _ | simp [PyData.depthAll]
  | n :: ns => by
    have := depth_ints ns
    rw [List.map_cons]
    simp only [PyData.depthAll, PyData.depth]
    omega
end
end Dz
namespace Dz
open PySem PySem.Spec PyProof.Rows L2
theorem eqvAll_ints : ∀ ns ms : List Int, PyData.eqvAll (ns.map PyData.int) (ms.map PyData.int) = decide (ns = ms)
  | [], [] => by rfl
  | [], _ :: _ => by rfl
  | _ :: _, [] => by rfl
  | n :: ns, m :: ms => by
    rw [List.map_cons, List.map_cons, PyData.eqvAll, eqvAll_ints ns ms]
    show ((n == m) && decide (ns = ms)) = _
    by_cases h : n = m
    · subst h; simp
    · simp [h]
theorem shaped_lst (ns : List Int) : SeqAt.shaped (.list (ns.map PyData.int)) = true := by
  have h1 := canLay_ints ns
  have h2 := depth_ints ns
  unfold SeqAt.shaped
  rw [Bool.and_eq_true]
  exact ⟨by simpa [PyData.canLay0] using h1, decide_eq_true (by simp only [PyData.depth]; omega)⟩
theorem shaped_tup (ns : List Int) : SeqAt.shaped (.tuple (ns.map PyData.int)) = true := by
  have h1 := canLay_ints ns
  have h2 := depth_ints ns
  unfold SeqAt.shaped
  rw [Bool.and_eq_true]
  exact ⟨by simpa [PyData.canLay0] using h1, decide_eq_true (by simp only [PyData.depth]; omega)⟩
theorem pyOf_lst (ns : List Int) : pyOf (.lst (ns.map D.int)) = some (.list (ns.map PyData.int)) := by
  unfold pyOf
  rw [pyOfs_ints]
theorem pyOf_tup (ns : List Int) : pyOf (.tup (ns.map D.int)) = some (.tuple (ns.map PyData.int)) := by
  unfold pyOf
  rw [pyOfs_ints]
theorem eqD_lst (ns ms : List Int) : eqD (.lst (ns.map D.int)) (.lst (ms.map D.int)) = some (decide (ns = ms)) := by
  unfold eqD
  rw [pyOf_lst, pyOf_lst]
  simp only []
  rw [shaped_lst, shaped_lst, Bool.and_self, if_pos rfl, PyData.eqv, eqvAll_ints]
theorem eqD_tup (ns ms : List Int) : eqD (.tup (ns.map D.int)) (.tup (ms.map D.int)) = some (decide (ns = ms)) := by
  unfold eqD
  rw [pyOf_tup, pyOf_tup]
  simp only []
  rw [shaped_tup, shaped_tup, Bool.and_self, if_pos rfl, PyData.eqv, eqvAll_ints]
section
variable {S : Sto} {Q : Vl → Sto → Prop}
theorem w_eqL {ns ms : List Int} : wp (cEqX (.d (.lst (ns.map D.int))) (.d (.lst (ms.map D.int)))) S Q ↔ Q (.d (.bl (decide (ns = ms)))) S := w_eq (eqD_lst ns ms)
theorem w_neL {ns ms : List Int} : wp (cNeX (.d (.lst (ns.map D.int))) (.d (.lst (ms.map D.int)))) S Q ↔ Q (.d (.bl (!decide (ns = ms)))) S := w_ne (eqD_lst ns ms)
theorem w_eqT {ns ms : List Int} : wp (cEqX (.d (.tup (ns.map D.int))) (.d (.tup (ms.map D.int)))) S Q ↔ Q (.d (.bl (decide (ns = ms)))) S := w_eq (eqD_tup ns ms)
theorem w_neT {ns ms : List Int} : wp (cNeX (.d (.tup (ns.map D.int))) (.d (.tup (ms.map D.int)))) S Q ↔ Q (.d (.bl (!decide (ns = ms)))) S := w_ne (eqD_tup ns ms)
end
def sumL (ts : List Str) : Nat := (ts.map fun t => t.length + 2).sum
theorem textFrom_le : ∀ (ts : List Str) (k : Nat) (acc : Str), (textFrom k acc ts).length ≤ acc.length + sumL ts
  | [], k, acc => by show acc.length ≤ _; exact Nat.le_add_right _ _
  | t :: r, k, acc => by
    have h := textFrom_le r (k + 1) (acc ++ (if k > 0 then ", " else "" : String) ++ t)
    have e : (acc ++ (if k > 0 then ", " else "" : String) ++ t : Str).length ≤ acc.length + (t.length + 2) := by
      rw [strLen_append, strLen_append]
      have : (Str.ofString (if k > 0 then ", " else "")).length ≤ 2 := by split <;> decide
      omega
    have e2 : sumL (t :: r) = (t.length + 2) + sumL r := by unfold sumL; rw [List.map_cons, List.sum_cons]
    show (textFrom (k + 1) (acc ++ (if k > 0 then ", " else "" : String) ++ t) r).length ≤ _
    omega
theorem list_le (ts : List Str) : (listText ts).length ≤ sumL ts + 2 := by
  unfold listText
  rw [strLen_append]
  have := textFrom_le ts 0 "["
  have e : ("[" : Str).length = 1 := by decide
  have e2 : ("]" : Str).length = 1 := by decide
  omega
end Dz
namespace Lim
structure Pt where
  few : List Int
  fst : Int
  per : Int
  rst : List Int
structure Ok (p : Pt) : Prop where
  f0 : 0 ≤ p.fst
  f1 : p.fst ≤ 2000
  p0 : 1 ≤ p.per
  p1 : p.per ≤ 2000
  fa : p.few.Pairwise (· < ·)
  fb : ∀ x ∈ p.few, 0 ≤ x ∧ x < p.fst
  ra : p.rst.Pairwise (· < ·)
  rb : ∀ x ∈ p.rst, 0 ≤ x ∧ x < p.per
def has (p : Pt) (n : Int) : Bool := if n < p.fst then decide (n ∈ p.few) else decide (n % p.per ∈ p.rst)
def upto (lo : Int) (n : Nat) : List Int := (List.range n).map fun (i : Nat) => lo + (i : Int)
def downs (lo : Int) (n : Nat) : List Int := (List.range n).map fun (i : Nat) => lo - (i : Int)
theorem mem_ints {lo x : Int} {n : Nat} : x ∈ upto lo n ↔ lo ≤ x ∧ x < lo + n := by
  unfold upto
  rw [List.mem_map]
  constructor
  · rintro ⟨i, hi, rfl⟩
    rw [List.mem_range] at hi
    omega
  · rintro ⟨h1, h2⟩
    exact ⟨(x - lo).toNat, List.mem_range.mpr (by omega), by omega⟩
def hasPer (rst : List Int) (per less : Int) : Bool := (upto 0 per.toNat).all fun r => decide (r ∈ rst) == decide ((r + less) % per ∈ rst)
def PerOk (rst : List Int) (per q : Int) : Prop := ∀ n : Int, n % per ∈ rst ↔ (n + q) % per ∈ rst
theorem PerOk.self {rst : List Int} {per : Int} : PerOk rst per per := fun n => by rw [Int.add_emod_right]
theorem PerOk.sub {rst : List Int} {per a b : Int} (ha : PerOk rst per a) (hb : PerOk rst per b) : PerOk rst per (a - b) := fun n => by
  have h1 := ha n
  have h2 := hb (n + (a - b))
  rw [show n + (a - b) + b = n + a by omega] at h2
  rw [h1, h2]
theorem PerOk.zero {rst : List Int} {per : Int} : PerOk rst per 0 := fun n => by rw [Int.add_zero]
theorem PerOk.add {rst : List Int} {per a b : Int} (ha : PerOk rst per a) (hb : PerOk rst per b) : PerOk rst per (a + b) := by
  have := ha.sub (PerOk.zero.sub hb)
  rwa [show a - (0 - b) = a + b by omega] at this
theorem PerOk.mulN {rst : List Int} {per a : Int} (ha : PerOk rst per a) : ∀ k : Nat, PerOk rst per (a * k)
  | 0 => by simpa using (PerOk.zero (rst := rst) (per := per))
  | k + 1 => by
    have := (PerOk.mulN ha k).add ha
    rwa [show a * (k : Int) + a = a * ((k + 1 : Nat) : Int) by rw [Int.natCast_add, Int.mul_add]; simp] at this
theorem PerOk.mul {rst : List Int} {per a : Int} (ha : PerOk rst per a) (k : Int) : PerOk rst per (a * k) := by
  rcases Int.le_total 0 k with h | h
  · obtain ⟨n, rfl⟩ := Int.eq_ofNat_of_zero_le h
    exact ha.mulN n
  · obtain ⟨n, hn⟩ := Int.eq_ofNat_of_zero_le (show 0 ≤ -k by omega)
    have := PerOk.zero.sub (ha.mulN n)
    rwa [show (0 : Int) - a * (n : Int) = a * k by rw [← hn, Int.mul_neg]; omega] at this
theorem PerOk.mod {rst : List Int} {per q : Int} (hq : PerOk rst per q) : PerOk rst per (per % q) := by
  rw [Int.emod_def]
  exact PerOk.self.sub (hq.mul _)
def lpers (rst : List Int) (per : Int) : List Int := (upto 1 per.toNat).filter fun q => decide (per % q = 0) && hasPer rst per q
def lper (rst : List Int) (per : Int) : Int := (lpers rst per).min?.getD 0
def odd (few : List Int) (per : Int) (rst : List Int) (n : Int) : Bool := decide (n ∈ few) != decide (n % per ∈ rst)
def lfirst (few : List Int) (fst per : Int) (rst : List Int) : Int := match (downs (fst - 1) fst.toNat).find? (odd few per rst) with
  | some n => n + 1
  | none => 0
def canon (p : Pt) : Pt :=
  let q := lper p.rst p.per
  let r := p.rst.filter fun x => decide (x < q)
  let f := lfirst p.few p.fst q r
  ⟨p.few.filter fun x => decide (x < f), f, q, r⟩
end Lim
namespace Dz
open PySem PySem.Spec PyProof.Rows L2
theorem dInts_ints (lo : Int) (n : Nat) : dInts lo n = (Lim.upto lo n).map D.int := by
  unfold dInts Lim.upto
  rw [List.map_map]
  rfl
theorem ints_len (lo : Int) (n : Nat) : (Lim.upto lo n).length = n := by unfold Lim.upto; rw [List.length_map, List.length_range]
/-- a comprehension over ints that leaves the store -/
theorem lcL_ints {i : Nat} {p : Env → M Bool} {f : Env → M Vl} {ρ : Env} {b : Int → Bool} {v : Int → D} (l : List Int) (h : ∀ n ∈ l, p (ρ.set i (some (.d (.int n)))) = pur (b n) ∧ (b n = true → f (ρ.set i (some (.d (.int n)))) = pur (.d (v n)))) :
    lcL (.one i) p f ρ (l.map D.int) = pur ((l.filter b).map v) := lcL_map (ρ1 := fun n => ρ.set i (some (.d (.int n)))) l fun n hn => ⟨rfl, (h n hn).1, (h n hn).2⟩
theorem lcL_all {i : Nat} {f : Env → M Vl} {ρ : Env} {v : Int → D} (l : List Int) (h : ∀ n ∈ l, f (ρ.set i (some (.d (.int n)))) = pur (.d (v n))) : lcL (.one i) bYes f ρ (l.map D.int) = pur (l.map v) := by
  rw [lcL_ints (b := fun _ => true) l fun n hn => ⟨rfl, fun _ => h n hn⟩, List.filter_eq_self.mpr fun _ _ => rfl]
end Dz
namespace Dz
open PySem PySem.Spec PyProof.Rows L2
theorem set_last {α : Type} (S : List α) (x y : α) : (S ++ [x]).set S.length y = S ++ [y] := by
  rw [List.set_append_right _ _ (Nat.le_refl _), Nat.sub_self]
  rfl
section
variable {S : Sto} {cs : List Str} {x c : Str} {fl : List (Str × D)} {d : D}
theorem w_stL {Q : Unit → Sto → Prop} (h1 : c ∈ cs) (h2 : fl.length < 1000) : wp (stF cs x (.c S.length) (.d d)) (S ++ [.ins c fl]) Q ↔ Q () (S ++ [.ins c (putFD x d fl)]) := by
  rw [w_stF List.getElem?_concat_length h1 h2, set_last]
theorem w_fldL {Q : Vl → Sto → Prop} (h1 : c ∈ cs) (h2 : fl.lookup x = some d) : wp (fld cs x (.c S.length)) (S ++ [.ins c fl]) Q ↔ Q (.d d) (S ++ [.ins c fl]) := w_fldC List.getElem?_concat_length h1 h2
end
/-- one of the items -/
def itemsOf : D → List D
  | .lst ds => ds
  | .tup ds => ds
  | .str z => Dz.signs z
  | _ => []
theorem ixN_nat {n : Nat} {i : Int} (h0 : 0 ≤ i) (h1 : i < n) : ixN n i = some i.toNat := by
  unfold ixN
  rw [if_pos h0, if_pos (by omega)]
theorem atI_nn {α : Type} {xs : List α} {i : Int} (h0 : 0 ≤ i) (h1 : i < xs.length) : atI xs i = xs[i.toNat]? := by
  unfold atI
  rw [ixN_nat h0 h1]
  rfl
theorem ix_wp {it : D} {r : Int} {S : Sto} (hk : ∃ zs, it = .lst zs ∨ it = .tup zs ∨ ∃ z : Str, it = .str z ∧ z.length ≤ 1000) (h0 : 0 ≤ r) (h1 : r < (itemsOf it).length) : wp (gIx (.d it) (.d (.int r))) S fun x S' => ∃ y, x = .d y ∧ y ∈ itemsOf it ∧ S' = S := by
  obtain ⟨zs, rfl | rfl | ⟨z, rfl, hz⟩⟩ := hk
  · have hr : r.toNat < zs.length := by have : (itemsOf (.lst zs)).length = zs.length := rfl; omega
    refine wp_opt (a := zs[r.toNat]) ?_ (wp_pur.mpr ⟨_, rfl, List.getElem_mem hr, rfl⟩)
    rw [atI_nn h0 (show r < (zs.length : Int) from h1), List.getElem?_eq_getElem hr]
  · have hr : r.toNat < zs.length := by have : (itemsOf (.tup zs)).length = zs.length := rfl; omega
    refine wp_opt (a := zs[r.toNat]) ?_ (wp_pur.mpr ⟨_, rfl, List.getElem_mem hr, rfl⟩)
    rw [atI_nn h0 (show r < (zs.length : Int) from h1), List.getElem?_eq_getElem hr]
  · have hl : (itemsOf (.str z)).length = z.cps.toList.length := by show (Dz.signs z).length = _; unfold Dz.signs; rw [List.length_map]
    have hr : r.toNat < z.cps.toList.length := by omega
    show wp (if z.length ≤ 100000 then _ else _) S _
    rw [if_pos (by omega)]
    refine wp_opt (a := z.cps.toList[r.toNat]) ?_ (wp_pur.mpr ⟨_, rfl, ?_, rfl⟩)
    · rw [atI_nn h0 (by omega), List.getElem?_eq_getElem hr]
    · show _ ∈ Dz.signs z
      unfold Dz.signs
      exact List.mem_map.mpr ⟨_, List.getElem_mem hr, rfl⟩
theorem len_wp {it : D} {S : Sto} {Q : Vl → Sto → Prop} (hk : ∃ zs, it = .lst zs ∨ it = .tup zs ∨ ∃ z : Str, it = .str z ∧ z.length ≤ 1000) (h : Q (.d (.int (itemsOf it).length)) S) : wp (bLen [.d it]) S Q := by
  obtain ⟨zs, rfl | rfl | ⟨z, rfl, hz⟩⟩ := hk
  · exact wp_pur.mpr h
  · exact wp_pur.mpr h
  · have hl : (itemsOf (.str z)).length = z.length := by show (Dz.signs z).length = _; unfold Dz.signs; rw [List.length_map, Array.length_toList]; rfl
    rw [hl] at h
    exact (w_lenS (by omega)).mpr h
/-- a written place of a list -/
theorem w_ixL {ds : List D} {i : Nat} {d : D} {S : Sto} {Q : Vl → Sto → Prop} (h : ds[i]? = some d) : wp (gIx (.d (.lst ds)) (.d (.int (i : Int)))) S Q ↔ Q (.d d) S := by
  have hl : i < ds.length := (List.getElem?_eq_some_iff.mp h).1
  have e : gIx (.d (.lst ds)) (.d (.int (i : Int))) = pur (.d d) := by
    show opt (atI ds (i : Int)) _ = _
    rw [atI_nn (by omega) (by omega), show ((i : Int)).toNat = i by omega, h]
    rfl
  rw [e]
  exact wp_pur
end Dz
namespace Lim
/-- the same set, told otherwise -/
def other (p : Pt) (a b : Int) : Pt := ⟨(Lim.upto 0 (p.fst + a).toNat).filter fun n => has p n, p.fst + a, p.per * b, Dz.srt (((Lim.upto (p.fst + a) (p.per * b).toNat).filter fun n => has p n).map fun n => n % (p.per * b))⟩
/-- small parts, as they are drawn -/
structure Small (p : Pt) : Prop where
  ok : Ok p
  f9 : p.fst ≤ 9
  d60 : (60 : Int) % p.per = 0
theorem Small.far {p : Pt} (s : Small p) {n : Int} (h : 9 ≤ n) : has p n = has p (9 + (n - 9) % 60) := by
  have f := s.f9
  have a := Int.emod_nonneg (n - 9) (show (60 : Int) ≠ 0 by omega)
  unfold has
  rw [if_neg (by omega), if_neg (by omega)]
  have d : p.per ∣ 60 := Int.dvd_of_emod_eq_zero s.d60
  have e : (9 + (n - 9) % 60) % 60 = n % 60 := by
    rw [Int.add_emod_emod, show 9 + (n - 9) = n by omega]
  rw [← Int.emod_emod_of_dvd n d, ← e, Int.emod_emod_of_dvd _ d]
end Lim
namespace Dz
open PySem PySem.Spec PyProof.Rows L2
section
variable {c : Str} {tys : List Ty} {φ : List Vl → M Vl} {g : Vl → Vl → M Vl} {b : Vl} {S : Sto} {Q : Vl → Sto → Prop}
theorem dunNe_str {x : Str} : dunNe c tys φ g (.d (.str x)) b = g (.d (.str x)) b := rfl
theorem dunNe_bl {x : Bool} : dunNe c tys φ g (.d (.bl x)) b = g (.d (.bl x)) b := rfl
theorem dunNe_int {x : Int} : dunNe c tys φ g (.d (.int x)) b = g (.d (.int x)) b := rfl
theorem dunNe_lst {x : List D} : dunNe c tys φ g (.d (.lst x)) b = g (.d (.lst x)) b := rfl
theorem dunNe_tup {x : List D} : dunNe c tys φ g (.d (.tup x)) b = g (.d (.tup x)) b := rfl
theorem dunNe_non : dunNe c tys φ g (.d .non) b = g (.d .non) b := rfl
theorem dunEq_str {x : Str} : dunEq c tys φ g (.d (.str x)) b = g (.d (.str x)) b := rfl
theorem dunEq_bl {x : Bool} : dunEq c tys φ g (.d (.bl x)) b = g (.d (.bl x)) b := rfl
theorem dunEq_int {x : Int} : dunEq c tys φ g (.d (.int x)) b = g (.d (.int x)) b := rfl
theorem dunEq_lst {x : List D} : dunEq c tys φ g (.d (.lst x)) b = g (.d (.lst x)) b := rfl
theorem dunEq_tup {x : List D} : dunEq c tys φ g (.d (.tup x)) b = g (.d (.tup x)) b := rfl
theorem dunEq_non : dunEq c tys φ g (.d .non) b = g (.d .non) b := rfl
theorem dunIn_ins {a : Vl} {fs : List (Str × D)} : dunIn c φ g a (.d (.ins c fs)) = bnd (noE (φ [.d (.ins c fs), a])) isB := by
  show (if c = c then _ else _) = _
  rw [if_pos rfl]
theorem tBoolX_ins {fs : List (Str × D)} {h : List Vl → M Vl} : tBoolX c φ h [.d (.ins c fs)] = bnd (noE (φ [.d (.ins c fs)])) isB := by
  show (if c = c then _ else _) = _
  rw [if_pos rfl]
theorem w_notB {k : Bool} : wp (notB (.d (.bl k))) S Q ↔ Q (.d (.bl (!k))) S := wp_pur
theorem w_isB {k : Bool} : wp (isB (.d (.bl k))) S Q ↔ Q (.d (.bl k)) S := wp_pur
end
end Dz
namespace Dz
open PySem PySem.Spec PyProof.Rows L2
def isC (c : Str) (x : Vl) : M Unit := match x with
  | .d (.cls c') => if c' = c then pur () else stuck
  | _ => stuck
def eCm (c : Str) (φ : List Vl → M Vl) (g : Env → M Vl) (fs : Env → M (List Vl)) : Env → M Vl := fun ρ => bnd (g ρ) fun x => bnd (isC c x) fun _ => bnd (fs ρ) fun xs => φ (.d (.cls c) :: xs)
section
variable {X : Cx} {k n : Nat} {p g : Addr} {mc : Value} {c m : Str} {pos apos : Pos} {e o : Expr} {es : List Expr} {go : Env → M Vl} {fs : Env → M (List Vl)} {pl : Sem Bool} {φ : List Vl → M Vl}
def eMkL (i : Nat) (c : Str) (φ : List Vl → M Vl) (fs : Env → M (List Vl)) : Env → M Vl := fun ρ => bnd (eVar i ρ) fun x => bnd (isC c x) fun _ => bnd (fs ρ) (mkI c φ)
end
section
variable {c : Str} {φ : List Vl → M Vl} {f : Env → M Vl} {fs : Env → M (List Vl)} {ρ : Env} {S : Sto}
theorem w_cm {Q : Vl → Sto → Prop} : wp (eCm c φ f fs ρ) S Q ↔ wp (f ρ) S fun x S => wp (isC c x) S fun _ S => wp (fs ρ) S fun xs S => wp (φ (.d (.cls c) :: xs)) S Q := by
  unfold eCm
  simp only [wp_bnd]
theorem w_mkL {i : Nat} {Q : Vl → Sto → Prop} : wp (eMkL i c φ fs ρ) S Q ↔ wp (eVar i ρ) S fun x S => wp (isC c x) S fun _ S => wp (fs ρ) S fun xs S => wp (mkI c φ xs) S Q := by
  unfold eMkL
  simp only [wp_bnd]
theorem w_isC {Q : Unit → Sto → Prop} : wp (isC c (.d (.cls c))) S Q ↔ Q () S := by
  have e : isC c (.d (.cls c)) = pur () := by
    show (if c = c then pur () else stuck) = _
    rw [if_pos rfl]
  rw [e]
  exact wp_pur
end
end Dz
namespace Dz
open PySem PySem.Spec PyProof.Rows L2
end Dz
namespace Dz
open PySem PySem.Spec PyProof.Rows L2
section
variable {X : Cx} {pos : Pos}
/-- a, b, .. = a list -/
def sAsgL (f : Env → M Vl) (is : List Nat) : Env → M Out := fun ρ => bnd (f ρ) fun x => match x with
  | .d (.lst ds) => if ds.length = is.length then pur (.nx (setAll is ds ρ)) else stuck
  | _ => stuck
end
end Dz
namespace Dz
open PySem PySem.Spec PyProof.Rows L2
/-- the i-th two are instances of c, and equal by its own method, whatever the store -/
def Pairs (c : Str) (φ : List Vl → M Vl) : List D → List D → Prop
  | [], [] => True
  | .ins c1 f :: xs, .ins c2 g :: ys => c1 = c ∧ c2 = c ∧ φ [.d (.ins c1 f), .d (.ins c2 g)] = pur (.d (.bl true)) ∧ Pairs c φ xs ys
  | _, _ => False
theorem Pairs.len {c : Str} {φ : List Vl → M Vl} : ∀ {xs ys : List D}, Pairs c φ xs ys → xs.length = ys.length
  | [], [], _ => rfl
  | .ins _ _ :: xs, .ins _ _ :: ys, h => congrArg (· + 1) (Pairs.len h.2.2.2)
theorem Pairs.at {c : Str} {φ : List Vl → M Vl} : ∀ {xs ys : List D} {i : Nat} {x y : D}, Pairs c φ xs ys → xs[i]? = some x → ys[i]? = some y → ∃ f g, x = .ins c f ∧ y = .ins c g ∧ φ [.d x, .d y] = pur (.d (.bl true))
  | .ins c1 f :: xs, .ins c2 g :: ys, 0, _, _, h, h1, h2 => by
    simp at h1 h2
    subst h1 h2
    obtain ⟨rfl, rfl, e, _⟩ := h
    exact ⟨f, g, rfl, rfl, e⟩
  | .ins c1 f :: xs, .ins c2 g :: ys, i + 1, _, _, h, h1, h2 => Pairs.at (i := i) h.2.2.2 (by simpa using h1) (by simpa using h2)
end Dz
namespace Dz
open PySem L2
theorem w_len {α : Type} {n : Nat} {p q : M α} {S : Sto} {Q : α → Sto → Prop} (h : n ≤ 100000) : wp (if n ≤ 100000 then p else q) S Q ↔ wp p S Q := by rw [if_pos h]
theorem w_asgL {f : Env → M Vl} {is : List Nat} {ρ : Env} {S : Sto} {Q : Out → Sto → Prop} : wp (sAsgL f is ρ) S Q ↔ wp (f ρ) S fun x S => wp (match x with
  | .d (.lst ds) => if ds.length = is.length then pur (.nx (setAll is ds ρ)) else stuck
  | _ => stuck) S Q := wp_bnd
/-- a for over ints by an invariant, that may draw; no turn leaves early -/
theorem forL_inv {i : Nat} {s : Env → M Out} {I : Env → Sto → Prop} {Q : Out → Sto → Prop} : ∀ (l : List Int) (ρ : Env) (S : Sto), I ρ S → (∀ n ∈ l, ∀ ρ S, I ρ S → wp (s (ρ.set i (some (.d (.int n))))) S fun o S' => ∃ ρ2, o = .nx ρ2 ∧ I ρ2 S') →
    (∀ ρ S, I ρ S → Q (.nx ρ) S) → wp (forL (.one i) s (l.map D.int) ρ) S Q
  | [], ρ, S, hI, _, hq => wp_pur.mpr (hq ρ S hI)
  | n :: l, ρ, S, hI, h, hq => by
    rw [List.map_cons]
    unfold forL
    show wp (bnd (s (ρ.set i (some (.d (.int n))))) _) S Q
    refine wp_bnd.mpr (wp_mono (h n List.mem_cons_self ρ S hI) ?_)
    rintro o S1 ⟨ρ2, rfl, hI2⟩
    exact forL_inv l ρ2 S1 hI2 (fun x hx => h x (List.mem_cons_of_mem _ hx)) hq
/-- a comprehension whose items draw: what each of them is -/
theorem lcL_each {i : Nat} {f : Env → M Vl} {ρ : Env} {I : Sto → Prop} {B : D → Prop} : ∀ (l : List Int) (S : Sto), I S → (∀ n ∈ l, ∀ S, I S → wp (f (ρ.set i (some (.d (.int n))))) S fun x S' => ∃ y, x = .d y ∧ B y ∧ I S') →
    wp (lcL (.one i) bYes f ρ (l.map D.int)) S fun ys S' => ys.length = l.length ∧ (∀ y ∈ ys, B y) ∧ I S' := fun l S hI h => by
  refine wp_mono (lcL_wp (I := I) (B := B) (l.map D.int) S hI fun d hd S hI => ?_) fun ys S' ⟨a, b, c⟩ => ⟨by simpa using a, b, c⟩
  obtain ⟨n, hn, rfl⟩ := List.mem_map.mp hd
  exact ⟨_, rfl, h n hn S hI⟩
end Dz
namespace Dz
open PySem PySem.Spec PyProof.Rows L2
section
variable {X : Cx} {pos : Pos}
theorem PK.imp {X : Cx} {kws : List Keyword} {t t' : TA} (h : PK X kws t) (i : ∀ σ H Q, t' σ H Q → t σ H Q) : PK X kws t' := ⟨fun pos pins s σ H Q I q => h.run pos pins s σ H Q I (i σ H Q q)⟩
end
end Dz
namespace Dz
open PySem L2
end Dz
namespace Dz
open PySem PySem.Spec PyProof.Rows L2
end Dz
namespace Dz
open PySem PySem.Spec PyProof.Rows L2
/-- without doubles, ascending -/
def dd : List Int → List Int
  | [] => []
  | x :: l => if x ∈ dd l then dd l else x :: dd l
end Dz
namespace Dz
open PySem PySem.Spec PyProof.Rows L2
end Dz
namespace Dz
open PySem PySem.Spec PyProof.Rows L2
theorem erOk_def {P : Program} {w : World} {K : Frag} {mg : Str → Option Value} {base : Heap} {N : List Str} {qual : Str} {scope : Scope} {f : Addr} {cdv : Value} {A : Around} {outer : List PySem.Env} {s : Shared} {H : Hp} {E : XK} :
    ErOk (cxOf (CX P w) P w K mg base N qual scope f cdv A outer s H E) (erE ⟨K, w⟩ E) E := ⟨takes_of rfl rfl rfl rfl, fun _ _ _ h => h⟩
abbrev tailVE : List Value := [.type "ValueError", .type "Exception", .type "BaseException", .type "object"]
/-- a class over ValueError without an own __init__ -/
structure MsgX (K : Frag) (c : Str) : Prop where
  q : PySem.W.excIn K (He.ga K c) tailVE "ValueError.__new__" = true
  kp : PySem.W.keepIn K (.ref (He.ga K c)) = true
  ex : PySem.W.subIn K (.ref (He.ga K c)) (.type "BaseException") = some true
  ty : PySem.W.typeIn K (.ref (He.ga K c)) = some (.type "type")
end Dz
namespace Dz
open PySem PySem.Spec PyProof.Rows L2
end Dz
namespace Dz
open PySem PySem.Spec PyProof.Rows L2 PpSet
end Dz
namespace Dz
open PySem PySem.Spec PyProof.Rows L2 PpSet
structure InSet (T : Int → Bool) (n : Nat) (ns : List Int) : Prop where
  mem : ∀ j, T j = decide (j ∈ ns)
  few : n ≤ ns.length
theorem InSet.nil : InSet (fun _ => false) 0 [] := ⟨fun j => by simp, Nat.le_refl _⟩
theorem InSet.add {T : Int → Bool} {n : Nat} {ns : List Int} (h : InSet T n ns) (v : Int) : InSet (fun j => T j || decide (j = v)) (if T v = true then n else n + 1) (ns ++ [v]) := by
  refine ⟨fun j => ?_, ?_⟩
  · rw [h.mem]
    simp [Bool.decide_or]
  · have := h.few
    rw [List.length_append]
    split <;> simp <;> omega
/-- the ints that a comprehension gives -/
def lcI (t : Tgt) (p : Env → M Bool) (f : Env → M Vl) (ρ : Env) : List D → M (List Int)
  | [] => pur []
  | d :: ds => bnd (gSet t d ρ) fun ρ1 => bnd (p ρ1) fun b => match b with
    | true => bnd (f ρ1) fun x => match x with
      | .d (.int v) => bnd (lcI t p f ρ ds) fun ys => pur (v :: ys)
      | _ => stuck
    | false => lcI t p f ρ ds
/-- what is still to come: dn is done -/
def RestI (w : World) (K : KW) (G : Hp) (t : Tgt) (p : Env → M Bool) (f : Env → M Vl) (ρ : Env) (Q : VK) (F : Hp) (m : List Addr) (S : Sto) (dn : List Int) (ds : List D) : Prop := match lcI t p f ρ ds S with
  | .ok rs S' => ∀ (F' : Hp) (m' : List Addr) (H' : Hp) (q : Addr) (T : Int → Bool) (n : Nat), Ext F F' m m' → Wd K F' m' (upd G q (SetO w q T n)) S' H' → G q = none → InSet T n (dn ++ rs) → Q (.ref q) H'
  | _ => False
section
variable {w : World} {K : KW} {G : Hp} {t : Tgt} {p : Env → M Bool} {f : Env → M Vl} {ρ ρ2 : Env} {Q : VK} {F F1 : Hp} {m m1 : List Addr} {S : Sto} {dn : List Int} {ds : List D} {d : D}
theorem RestI.ext (e : Ext F F1 m m1) (h : RestI w K G t p f ρ Q F m S dn ds) : RestI w K G t p f ρ Q F1 m1 S dn ds := by
  unfold RestI at h ⊢
  cases q : lcI t p f ρ ds S with
  | err => rw [q] at h; exact h
  | no => rw [q] at h; exact h
  | ok rs S' => rw [q] at h; exact fun F' m' H' q T n e' => h F' m' H' q T n (e.trans e')
theorem RestI.dead (h : RestI w K G t p f ρ Q F m S dn (d :: ds)) (q : gSet t d ρ S = .no) : False := by
  unfold RestI lcI bnd at h
  rw [q] at h
  exact h
theorem RestI.step (h : RestI w K G t p f ρ Q F m S dn (d :: ds)) (q : gSet t d ρ S = .ok ρ2 S) : match p ρ2 S with
    | .ok true S2 => (match f ρ2 S2 with
      | .ok (.d (.int y)) S3 => RestI w K G t p f ρ Q F m S3 (dn ++ [y]) ds
      | _ => False)
    | .ok false S2 => RestI w K G t p f ρ Q F m S2 dn ds
    | _ => False := by
  unfold RestI lcI bnd at h
  rw [q] at h
  simp only [] at h
  cases q2 : p ρ2 S with
  | err => rw [q2] at h; exact h
  | no => rw [q2] at h; exact h
  | ok b S2 =>
    rw [q2] at h
    cases b with
    | false => exact h
    | true =>
      simp only [] at h ⊢
      cases q3 : f ρ2 S2 with
      | err => rw [q3] at h; exact h
      | no => rw [q3] at h; exact h
      | ok x S3 =>
        rw [q3] at h
        cases x with
        | c n => exact h
        | d y =>
          cases y with
          | int v =>
            simp only [bnd, pur] at h ⊢
            unfold RestI
            cases q4 : lcI t p f ρ ds S3 with
            | err => rw [q4] at h; exact h
            | no => rw [q4] at h; exact h
            | ok rs S4 =>
              rw [q4] at h
              intro F' m' H' a T n e w' hG rr
              refine h F' m' H' a T n e w' hG ?_
              rw [List.append_assoc] at rr
              exact rr
          | _ => exact h
end
end Dz
namespace Dz
open PySem PySem.Spec PyProof.Rows L2 PpSet
end Dz
namespace Dz
open PySem PySem.Spec PyProof.Rows L2
end Dz
namespace Dz
open PySem PySem.Spec PyProof.Rows L2
end Dz
namespace Dz
open PySem PySem.Spec PyProof.Rows L2
def msgB (c : Str) (K : Frag) : Bool := PySem.W.excIn K (He.ga K c) tailVE "ValueError.__new__" && (PySem.W.keepIn K (.ref (He.ga K c)) && (decide (PySem.W.subIn K (.ref (He.ga K c)) (.type "BaseException") = some true) && decide (PySem.W.typeIn K (.ref (He.ga K c)) = some (.type "type"))))
theorem msgX_ok {K : Frag} {c : Str} (z : (Fz.chk (msgB c)).ok K = true) : MsgX K c := by
  obtain ⟨h1, z⟩ := He.ba z
  obtain ⟨h2, z⟩ := He.ba z
  obtain ⟨h3, h4⟩ := He.ba z
  exact ⟨h1, h2, of_decide_eq_true h3, of_decide_eq_true h4⟩
end Dz
namespace Dz
open PySem PySem.Spec PyProof.Rows L2
end Dz
namespace Dz
open PySem PySem.Spec PyProof.Rows L2
end Dz
namespace Dz
open PySem PySem.Spec PyProof.Rows L2
end Dz
namespace Dz
open PySem PySem.Spec PyProof.Rows L2
open PySem.Sem (wp)
structure CallX (B newId initId : String) (mro : List Value) : Prop where
  maker : ∃ N inN bmN, ExcBaseFacts N newId inN bmN ∧ mro.contains (.type N) = true
  init : Slot B "__init__" initId
  code : entryFor table initId = some Builtin.«BaseException.__init__»
  split : splitId initId = some (B, "__init__")
  kind : builtinKind initId = some Manifest.AttrKind.slot
  row : Manifest.signature? initId = some ⟨.positional, "*", B, .self, [⟨"args", .varPos, false⟩]⟩
  star : (B != "*") = true
  hasB : mro.contains (.type B) = true
  noAttr : mro.contains (.type "AttributeError") = false
  noName : mro.contains (.type "NameError") = false
theorem CallX.of {B newId initId : String} {mro : List Value} (F : ExcBaseFacts B newId initId mro) : CallX B newId initId mro :=
  ⟨⟨B, initId, mro, F, F.hasB⟩, F.init, F.initEntry, F.initSplit, F.initKind, F.initRow, F.noStar, F.hasB, F.noAttr, F.noName⟩
section
variable {M : Model} {A : Around} {E : Value → Shared → Prop} {h : Heap} {g : Array GenState} {d : Drawn} {t : Nat} {os : OsState}
variable {nm q : Str} {C N : Addr} {bs bm mro : List Value} {hdct : Bool} {sn : List Str} {sub : List Value} {ab : Bool} {col : Option Bool} {dd : Option Addr} {k0 k1 k2 k3 k5 : Option Value} {B newId initId T : String}
theorem sub_x {Q : Bool → Shared → Prop} {b : Bool} (hC : h.get? C = some (excClassObj nm q C N bs bm hdct sn sub ab col dd k0 k1 k2 k3 k5 newId)) (alike : bm.contains (.type T) = b) (z : Q b ⟨h, g, d, t, os⟩) : wpAny M A (isSubtype (.ref C) (.type T)) Q E ⟨h, g, d, t, os⟩ := by
  refine wpAny_isSubtype_exc hC ?_
  rw [List.contains_cons, alike]
  exact z
theorem new_ok_x {K : String} {inN : String} {bmN rest : List Value} {Q : Unit → Shared → Prop} (F : ExcBaseFacts K newId inN bmN) (hK : bm.contains (.type K) = true) (hC : h.get? C = some (excClassObj nm q C N bs bm hdct sn sub ab col dd k0 k1 k2 k3 k5 newId)) (z : Q () ⟨h, g, d, t, os⟩) :
    wpAny M A (checkBuiltinCall newId ⟨.ref C :: rest, []⟩) Q E ⟨h, g, d, t, os⟩ := by
  have f1 := F.newKind
  have f2 := F.newSplit
  have f3 := F.newRow
  have f4 := F.noStar
  unfold checkBuiltinCall
  rw [f1]
  simp only [f2, f3]
  wp_walk using wpAny_loadPart_at hC, sub_x hC hK, wpAny_staticBase_exc hC, wpAny_madeBy_exc hC
  exact z
theorem init_ok_x {e : Addr} {oe : Obj} {rest : List Value} {Q : Unit → Shared → Prop} (T : CallX B newId initId mro) (alike : ∀ X : String, bm.contains (.type X) = mro.contains (.type X)) (hC : h.get? C = some (excClassObj nm q C N bs bm hdct sn sub ab col dd k0 k1 k2 k3 k5 newId))
    (he : h.get? e = some oe) (ce : oe.cls = .ref C) (z : Q () ⟨h, g, d, t, os⟩) : wpAny M A (checkBuiltinCall initId ⟨.ref e :: rest, []⟩) Q E ⟨h, g, d, t, os⟩ := by
  have hB : bm.contains (.type B) = true := (alike B).trans T.hasB
  have f4 := T.star
  obtain ⟨c0, o1, o2, o3⟩ := oe
  obtain rfl : c0 = .ref C := ce
  have le : ∀ {part : Option Value} {Q : Obj → Shared → Prop}, Q ⟨.ref C, o1, o2, o3⟩ ⟨h, g, d, t, os⟩ → wpAny M A (loadPart e part) Q E ⟨h, g, d, t, os⟩ := fun q => wpAny_loadPart_at he q
  unfold checkBuiltinCall
  rw [T.kind]
  simp only [T.split, T.row]
  wp_walk using le, wpAny_loadPart_at hC, sub_x hC hB
  exact wpAny_onRaise (wpAny_of_eq (check_star_args _ _ _ _ _ _) z)
end
section
variable {prog : Program} {w : World} {A : Around} {E : Value → Shared → Prop} {R : Result → Shared → Prop} {h : Heap} {g : Array GenState} {d : Drawn} {t : Nat} {os : OsState}
variable {nm q : Str} {C N : Addr} {bs bm mro : List Value} {hdct : Bool} {sn : List Str} {sub : List Value} {ab : Bool} {col : Option Bool} {dd : Option Addr} {k0 k1 k2 k3 k5 : Option Value} {B newId initId : String}
theorem new_run_x {rest : List Value} (T : CallX B newId initId mro) (alike : ∀ X : String, bm.contains (.type X) = mro.contains (.type X)) (hC : h.get? C = some (excClassObj nm q C N bs bm hdct sn sub ab col dd k0 k1 k2 k3 k5 newId)) (few : rest.length ≤ sizeLine)
    (z : R (.ok (.ret (.ref (h.objs.size + 1)))) ⟨(h.push (PySem.W.kdv_tup rest)).push (PySem.HandSPX.excO C h.objs.size), g, d, t, os⟩) : codeAny (model prog w) A (.builtin newId ⟨.ref C :: rest, []⟩) R ⟨h, g, d, t, os⟩ := by
  obtain ⟨K, inN, bmN, F, hK⟩ := T.maker
  have cK := (alike K).trans hK
  have cA := (alike "AttributeError").trans T.noAttr
  have cN := (alike "NameError").trans T.noName
  have ends := F.ends
  refine codeAny_builtinAt F.entry ?_
  unfold Builtin.«BaseException.__new__»
  refine PySem.wpAt_bind ?_
  show PySem.wpAt _ _ _ (stack >>= _) _ _ _
  refine PySem.wpAt_bind (PySem.wpAt_stack fun p below => PySem.wpAt_of_wpAny ?_)
  wp_walk
  refine PySem.wpAt_of_wpAny ?_
  rw [F.owner]
  wp_walk using wpAny_madeHere_exc F.canon hC, wpAny_loadPart_at hC, sub_x hC cK, sub_x hC cA, sub_x hC cN
  show R _ _
  rw [Heap.size_push]
  exact z
theorem make_x {rest : List Value} {fI : Addr} {Q : PySem.Fin → Shared → Prop} (T : CallX B newId initId mro) (alike : ∀ X : String, bm.contains (.type X) = mro.contains (.type X)) (hC : h.get? C = some (excClassObj nm q C N bs bm hdct sn sub ab col dd k0 k1 k2 k3 k5 newId)) (few : rest.length ≤ sizeLine)
    (ini : PySem.W.Looks (model prog w) h (typeLookup (.ref C) "__init__") (some (.ref fI))) (bind : ∀ self, PySem.W.Looks (model prog w) h (bindSpecial (.ref fI) self) (.ref fI, [self]))
    (run : codeAny (model prog w) A (.call (.ref fI) ⟨.ref (h.objs.size + 1) :: rest, []⟩) (fun r s' => match r with | .ok (.ret v) => v = .none ∧ Q (.done (.ret (.ref (h.objs.size + 1)))) s' | .ok _ => False | .error e => E e s') ⟨(h.push (PySem.W.kdv_tup rest)).push (PySem.HandSPX.excO C h.objs.size), g, d, t, os⟩) :
    wpAny (model prog w) A (Builtin.«type.__call__» ⟨.ref C :: rest, []⟩) Q E ⟨h, g, d, t, os⟩ := by
  wp_walk using wpAny_loadPart_at hC, wpAny_madeBy_exc hC
  obtain ⟨K, inN, bmN, F, hK⟩ := T.maker
  refine codeAny_call_builtin_code (Code.quiet_builtin _ F.quiet) (new_ok_x F ((alike K).trans hK) hC (new_run_x T alike hC few ?_))
  have old : ∀ b o, h.get? b = some o → ((h.push (PySem.W.kdv_tup rest)).push (PySem.HandSPX.excO C h.objs.size)).get? b = some o := fun b o e => Heap.get?_push_of_some _ (Heap.get?_push_of_some _ e)
  have cls2 := old _ _ hC
  have ini2 := ini.keeps old
  have bind2 := (bind (.ref (h.objs.size + 1))).keeps old
  have there : ((h.push (PySem.W.kdv_tup rest)).push (PySem.HandSPX.excO C h.objs.size)).get? (h.objs.size + 1) = some (PySem.HandSPX.excO C h.objs.size) := by
    have z := Heap.get?_push_size (h.push (PySem.W.kdv_tup rest)) (o := PySem.HandSPX.excO C h.objs.size) rfl
    rw [Heap.size_push] at z
    exact z
  have self : ∀ {Q : Bool → Shared → Prop} {s : Shared}, s.heap = (h.push (PySem.W.kdv_tup rest)).push (PySem.HandSPX.excO C h.objs.size) → Q true s → wpAny (model prog w) A (isSubtype (.ref C) (.ref C)) Q E s := fun {Q s} e q => by
    obtain ⟨_, _, _, _, _⟩ := s
    simp only at e
    subst e
    refine wpAny_isSubtype_exc cls2 ?_
    rw [List.contains_cons, beq_self_eq_true, Bool.true_or]
    exact q
  show wpAny _ _ _ _ _ _
  refine wpAny_bind ?_
  unfold isInstance
  wp_walk using wpAny_loadPart_at there, self rfl
  refine ini2.at ?_
  refine wpAny_holding (wpAny_bind (bind2.at (wpAny_bind (wpAny_call (codeAny_mono run fun r s2 q => ?_)))))
  cases r with
  | error e => exact q
  | ok fl =>
    cases fl with
    | ret v =>
      obtain ⟨ev, q⟩ := q
      subst ev
      wp_walk
      exact q
    | next => exact q.elim
    | brk => exact q.elim
    | cont => exact q.elim
/-- C(..): the error is laid, and its own __init__ is run -/
theorem call_x {rest : List Value} {fI : Addr} (T : CallX B newId initId mro) (alike : ∀ X : String, bm.contains (.type X) = mro.contains (.type X)) (hC : h.get? C = some (excClassObj nm q C N bs bm hdct sn sub ab col dd k0 k1 k2 k3 k5 newId)) 
    (ini : PySem.W.Looks (model prog w) h (typeLookup (.ref C) "__init__") (some (.ref fI))) (bind : ∀ self, PySem.W.Looks (model prog w) h (bindSpecial (.ref fI) self) (.ref fI, [self])) (few : rest.length ≤ sizeLine)
    (run : codeAny (model prog w) (A.under (.builtin "type.__call__" ⟨.ref C :: rest, []⟩)) (.call (.ref fI) ⟨.ref (h.objs.size + 1) :: rest, []⟩) (PySem.W.InitBack (h.objs.size + 1) R) ⟨(h.push (PySem.W.kdv_tup rest)).push (PySem.HandSPX.excO C h.objs.size), g, d, t, os⟩) :
    codeAny (model prog w) A (.call (.ref C) ⟨rest, []⟩) R ⟨h, g, d, t, os⟩ := by
  have tp : (⟨h, g, d, t, os⟩ : Shared).TypeIs (.ref C) "type" := ⟨_, hC, rfl⟩
  have look := tc_lookup
  have bound := tc_bind (.ref C)
  refine codeAny_of_tree ?_
  show wpAny _ _ (callAny (.ref C) _) _ _ _
  wp_walk using wpAny_loadPart_at hC
  refine ⟨rfl, codeAny_call_builtin_at (Code.quiet_builtin _ (by decide +kernel)) entry_typeCall ?_⟩
  refine wpAny_check_type_call_sub hC (make_x T alike hC few ini bind (codeAny_mono run fun r s2 q => ?_))
  cases r with
  | error e => exact q
  | ok fl => cases fl <;> exact q
/-- B.__init__(e, ..): the arguments are laid anew -/
theorem init_x {e t0 : Addr} {rest : List Value} (T : CallX B newId initId mro) (alike : ∀ X : String, bm.contains (.type X) = mro.contains (.type X)) (hC : h.get? C = some (excClassObj nm q C N bs bm hdct sn sub ab col dd k0 k1 k2 k3 k5 newId)) (he : h.get? e = some (PySem.HandSPX.excO C t0)) (few : rest.length ≤ sizeLine)
    (z : ∀ h' t1, (∀ b o, b ≠ e → h.get? b = some o → h'.get? b = some o) → h'.get? e = some (PySem.HandSPX.excO C t1) → R (.ok (.ret .none)) ⟨h', g, d, t, os⟩) :
    codeAny (model prog w) A (.call (.builtin initId) ⟨.ref e :: rest, []⟩) R ⟨h, g, d, t, os⟩ := by
  refine codeAny_call_builtin T.init.plain T.code (init_ok_x T alike hC he rfl ?_)
  wp_walk
  refine z _ h.objs.size (fun b o hb ho => ?_) ((Heap.get?_update_self _ (Heap.get?_push_of_some _ he) rfl).trans rfl)
  exact (Heap.get?_update_ne _ _ _ _ hb).trans (Heap.get?_push_of_some _ ho)
end
abbrev keyMro : List Value := [.type "KeyError", .type "LookupError", .type "Exception", .type "BaseException", .type "object"]
theorem callX_KeyError : CallX "KeyError" "LookupError.__new__" "KeyError.__init__" keyMro where
  maker := ⟨"LookupError", _, _, PySem.F.excBase_LookupError, by decide +kernel⟩
  init := .of (owner := "KeyError") (n := "__init__") (by rw [typeLookup_type, builtinLookup_eq_fast]; kernel_rfl) (by decide +kernel) (by decide +kernel) (by decide +kernel) (.inl (by decide +kernel)) (by rw [isSubtype_type]; kernel_rfl)
  code := entryFor_alias (id' := "BaseException.__init__") (by rw [fastTable_eq_tree]; kernel_rfl) (by decide +kernel) (by decide +kernel) (by rw [fastTable_eq_tree]; kernel_rfl)
  split := by kernel_rfl
  kind := by kernel_rfl
  row := by kernel_rfl
  star := by decide +kernel
  hasB := by decide +kernel
  noAttr := by decide +kernel
  noName := by decide +kernel
theorem store_KeyError : StoreFacts "KeyError" keyMro "object.__setattr__" "object" where
  mro := by kernel_rfl
  slot := .of (owner := "object") (n := "__setattr__") (by rw [typeLookup_type, builtinLookup_eq_fast]; kernel_rfl) (by decide +kernel) (by decide +kernel) (by decide +kernel) (.inl (by decide +kernel)) (by rw [isSubtype_type]; kernel_rfl)
  entry := PySem.F.store_LookupError.entry
  kind := by decide +kernel
  split := by decide +kernel
  hasOwner := by decide +kernel
  args := fun a b c => by unfold argsOk; kernel_rfl
  passes := fun self => by kernel_rfl
end Dz
namespace Dz
open PySem PySem.Spec PyProof.Rows L2
structure KeepC (K : Frag) (C : Addr) (B newId initId : String) (mro : List Value) : Prop where
  call : CallX B newId initId mro
  put : StoreFacts B mro "object.__setattr__" "object"
  made : PySem.W.excInitIn K C mro newId = true
  over : PySem.W.excOver K C mro = true
  dict : PySem.W.hasDictIn K C = true
  setter : PySem.W.findIn K (.ref C) "__setattr__" = some (some (.builtin "object.__setattr__"))
  exc : PySem.W.subIn K (.ref C) (.type "BaseException") = some true
  typ : PySem.W.typeIn K (.ref C) = some (.type "type")
  keep : PySem.W.keepIn K (.ref C) = true
theorem upd_idle {H : Hp} {a : Addr} {o : HO} (e : H a = some o) : upd H a o = H := funext fun b => by
  unfold upd
  split
  · rename_i q; rw [q, e]
  · rfl
section
variable {X : Cx} {pins : List (Addr × Obj)} {σ : L2.St} {H : Hp} {s : Shared} {a C : Addr} {B newId initId : String} {mro : List Value} {f : Str} {y : V} {u : Value} {A : Around} {E : Value → Shared → Prop}
/-- the built-in's __init__ lays the arguments anew: nothing that is known of the error changes -/
theorem base_again {us : List Value} {Q : Value → Shared → Prop} (T : KeepC X.kw C B newId initId mro) (I : Inv X pins σ H s) (young : H a = some (exo a C none)) (few : us.length ≤ sizeLine) (h : ∀ s', Inv X pins σ H s' → Q .none s') :
    wpAny (model X.prog X.w) A (call (.builtin initId) (.ref a :: us)) Q E s := by
  obtain ⟨_, _, _, _, _, _, _, _, _, _, _, _, _, _, _, _, cls, alike⟩ := PySem.W.excInit_of I.kIn T.made
  obtain ⟨t, there⟩ := exo_at I.hok young
  obtain ⟨hp, gs, dr, tk, os⟩ := s
  refine wpAny_call (init_x T.call alike cls there few fun h' t' rest now => h _ ?_)
  have J := I.write (x := a) (e := a) (o := exo a C none) (t' := tk) (young ▸ True.intro) (Or.inl rfl) rest ⟨_, now⟩ (exo_ok now)
  exact upd_idle young ▸ J
/-- the first field: the error gets its dict -/
theorem field_first {Q : Unit → Shared → Prop} (T : KeepC X.kw C B newId initId mro) (I : Inv X pins σ H s) (young : H a = some (exo a C none)) (free : PySem.W.takerIn X.kw C f = some none) (ry : RelV y u)
    (h : ∀ (d : Addr) (s' : Shared), H d = none → d ≠ a → Inv X pins σ (upd (upd H d (exd d [(f, y)])) a (exo a C (some d))) s' → Q () s') : wpAny (model X.prog X.w) A (setAttr (.ref a) f u) Q E s := by
  obtain ⟨t, there⟩ := exo_at I.hok young
  have inst : PySem.W.InstAt s.heap a { cls := .ref C, data := .fields #[.ref t, .none, .none, .none, .bool false, .none] } C none := ⟨there, rfl, rfl, True.intro⟩
  refine PySem.W.set_plain I.kIn inst T.setter (PySem.W.osa_openX T.put I.kIn (s := { s with toks := s.toks + 1 }) inst T.over free fun own => ?_)
  obtain ⟨cd, known, has⟩ : ∃ cd, PySem.W.clsIn X.kw C = some cd ∧ cd.hasDict = true := PySem.W.any_some T.dict
  show wpAny _ _ (Builtin.ObjectAttr.storeInOwnDict (.ref a) (.ref C) _ f u own) _ _ _
  unfold Builtin.ObjectAttr.storeInOwnDict
  refine wpAny_bind (wpAny_pure ?_)
  rw [if_neg (fun z => nomatch z)]
  have old : a ≠ s.heap.objs.size := Nat.ne_of_lt (Heap.lt_size there)
  refine wpAny_bind (PySem.W.instanceDict_exc there (PySem.W.looks_clsIn I.kIn known) has (PySem.HandSPX.store_in_new ?_ fun h' tk' kept apart => ?_))
  · refine ⟨_, #[], 0, (Heap.get?_update_ne _ _ _ _ old.symm).trans (Heap.get?_push_size _ rfl), rfl, ?_, fun _ => rfl⟩
    intro e none; simp at none
  · have now : h'.get? a = some { cls := .ref C, dict := some s.heap.objs.size, data := .fields #[.ref t, .none, .none, .none, .bool false, .none] } := (apart.2 a old).trans (Heap.get?_update_self _ (Heap.get?_push_of_some _ there) rfl)
    -- the heap in between: the dict is there, the error does not know it yet
    obtain ⟨mid, young', off⟩ : ∃ mid : Heap, mid.get? a = some { cls := .ref C, data := .fields #[.ref t, .none, .none, .none, .bool false, .none] } ∧ ∀ b, b ≠ a → mid.get? b = h'.get? b :=
      ⟨h'.update a fun _ => { cls := .ref C, data := .fields #[.ref t, .none, .none, .none, .bool false, .none] }, Heap.get?_update_self _ now rfl, fun b hb => Heap.get?_update_ne _ _ _ _ hb⟩
    have I1 : Inv X pins σ (upd H s.heap.objs.size (exd s.heap.objs.size [(f, y)])) { s with heap := mid, toks := tk' } := by
      refine I.laid (fun b o e => ?_) (Nat.le_refl _) (exd_ok (kept.at fun o e => (off _ old.symm).trans e) fun g => relO_put (fs := []) (mA := fun _ => none) ry (fun _ => True.intro) g)
      by_cases hb : b = a
      · rw [hb] at e ⊢; exact young'.trans (there.symm.trans e)
      · exact (off b hb).trans ((apart.2 b (Nat.ne_of_lt (Heap.lt_size e))).trans ((Heap.get?_update_ne _ _ _ _ hb).trans (Heap.get?_push_of_some _ e)))
    have wr : Mut (upd H s.heap.objs.size (exd s.heap.objs.size [(f, y)]) a) := by rw [upd_ne old, young]; exact True.intro
    exact h _ _ (I.hok.fresh (Nat.le_refl _)) old.symm (I1.write (e := a) (t' := tk') wr (Or.inl rfl) (fun b o hb e => (off b hb).symm.trans e) ⟨_, now⟩ (exo_ok now))
end
/-- a young error in slot 0, what it is made of in slot 1 -/
def Young (C : Addr) (σ : L2.St) (H : Hp) (a : Addr) (y : V) : Prop := σ[0]? = some (some (.ref a)) ∧ σ[1]? = some (some y) ∧ H a = some (exo a C none)
/-- .. with its dict -/
def withDict (H : Hp) (a C d : Addr) (f : Str) (y : V) : Hp := upd (upd H d (exd d [(f, y)])) a (exo a C (some d))
/-- what the built-in error is to its name -/
structure BuiltX (X : Cx) (b : Str) (B initId : String) : Prop where
  gl : Gl X b
  free : X.mg b = none
  boot : bootBuiltins b = some (.type B)
  plain : b ≠ "__name__" ∧ (b == ("__debug__" : Str)) = false
  typ : typeOf (.type B) = pure (.type "type")
  stub : Manifest.isStub B = false
  meth : PySem.W.findCls X.kw (.type B) (.type "type") "__init__" = some (.val (.builtin initId))
  hand : PySem.W.handedIn (.builtin initId) = true
section
variable {X : Cx} {C : Addr} {B newId initId : String} {mro : List Value} {self x b f : Str} {p1 p2 p3 p4 p5 p6 p7 p8 p9 : Pos}
theorem pe_base {pl : Sem Bool} (T : KeepC X.kw C B newId initId mro) (b0 : BuiltX X b B initId) (h0 : X.N[0]? = some self) (h1 : X.N[1]? = some x) (v0 : Vis X.env.scope self) (v1 : Vis X.env.scope x)
    (d0 : (self == ("__debug__" : Str)) = false ∧ (self == ("__classdict__" : Str)) = false) (d1 : (x == ("__debug__" : Str)) = false ∧ (x == ("__classdict__" : Str)) = false)
    (sh : MethSh X (.Name b p1) "__init__" p2 [.Name self p3, .Name x p4] p5 pl := by rfl) (s0 : Args1 X (.Name self p3) [.Name x p4] := by rfl) (s1 : Args1 X (.Name x p4) [] := by rfl) (ns : NoStar X [.Name x p4] p5 := by rfl) :
    PE X (.Call (.Attribute (.Name b p1) "__init__" p2) [.Name self p3, .Name x p4] [] p5) (fun σ H Q => ∃ a y, Young C σ H a y ∧ Q .non H) := pe_by fun {pins s σ H Q} I h => by
  obtain ⟨a, y, ⟨e0, e1, young⟩, q⟩ := h
  obtain ⟨m, fr⟩ := I.fr
  have args := pa_cons (pe_var (pos := p3) h0 v0 d0.1 d0.2) (pa_cons (pe_var (pos := p4) h1 v1 d1.1 d1.2) pa_nil s1) s0
  refine PySem.W.methodCall_KW (ld_blt I b0.gl b0.free b0.boot (PySem.W.method_type fr I.ok.mod.kin b0.typ b0.stub b0.meth b0.hand ?_) b0.plain.1 b0.plain.2) sh
  refine PyProof.Rows.callWith_method1 (thn (args.run p5 pins _ σ H (fun vs H1 => vs = [.ref a, y] ∧ H1 = H) (I.tok _) ⟨_, e0, _, e1, rfl, rfl⟩) fun us s1 ⟨vs, H1, J, r, ev, eH⟩ => ?_) s0 ns
  subst ev; subst eH
  cases r with
  | cons ra ry =>
    cases (show _ = Value.ref a from ra)
    exact base_again T J young (by rw [← Paired.length ry, sizeLine_eq]; exact Nat.le_of_ble_eq_true rfl) fun s2 J2 => ⟨.non, _, J2, rfl, q⟩
theorem ps_keep (T : KeepC X.kw C B newId initId mro) (free : PySem.W.takerIn X.kw C f = some none) (h0 : X.N[0]? = some self) (h1 : X.N[1]? = some x) (v0 : Vis X.env.scope self) (v1 : Vis X.env.scope x)
    (d0 : (self == ("__debug__" : Str)) = false ∧ (self == ("__classdict__" : Str)) = false) (d1 : (x == ("__debug__" : Str)) = false ∧ (x == ("__classdict__" : Str)) = false)
    (ns : swapsWith (.Name x p8) (some (.Attribute (.Name self p6) f p7)) p9.line X.env = pure false := by rfl) :
    PS X (.Assign [.Attribute (.Name self p6) f p7] (.Name x p8) p9) (fun D σ H => ∃ a y, Young C σ H a y ∧ ∀ d, H d = none → d ≠ a → D.nx σ (withDict H a C d f y)) := ⟨fun pins s σ H D I h => by
  obtain ⟨a, y, ⟨e0, e1, young⟩, q⟩ := h
  refine plainObj_wpAny_Assign_Attribute (thn ((pe_var (pos := p8) h1 v1 d1.1 d1.2).run pins s σ H (fun v H1 => v = y ∧ H1 = H) I ⟨_, e1, rfl, rfl⟩) fun u s1 ⟨_, _, I1, ry, ev, eH⟩ =>
    thn ((pe_var (pos := p6) h0 v0 d0.1 d0.2).run pins s1 σ _ (fun v H1 => v = .ref a ∧ H1 = H) I1 ⟨_, e0, rfl, eH⟩) fun w s2 ⟨_, _, I2, ra, ev2, eH2⟩ => ?_) ns
  subst ev; subst ev2; subst eH2
  cases (show w = Value.ref a from ra)
  exact field_first T I2 young free ry fun d s3 n ne J => ⟨σ, _, J, q d n ne⟩⟩
end
end Dz
namespace Dz
open PySem PySem.Spec PyProof.Rows L2
/-- what the __init__ of a class of errors with the field f does -/
def spKeep (C : Addr) (f : Str) : Sp := fun vs H Q _ => ∃ a y, vs = [.ref a, y] ∧ H a = some (exo a C none) ∧ ∀ d, H d = none → d ≠ a → Q .non (withDict H a C d f y)
abbrev initBody (b self x f : Str) (p1 p2 p3 p4 p5 p6 p7 p8 p9 p10 : Pos) : List Stmt :=
  [.Expr (.Call (.Attribute (.Name b p1) "__init__" p2) [.Name self p3, .Name x p4] [] p5) p6, .Assign [.Attribute (.Name self p7) f p8] (.Name x p9) p10]
section
variable {P : Program} {w : World} {K : Frag} {mg : Str → Option Value} {base : Heap} {CX : CXT} {k : Nat} {fI C : Addr} {B newId initId : String} {mro : List Value} {name qual b self x f : Str} {params : Arguments} {scope : Scope} {fd : FuncData} {p1 p2 p3 p4 p5 p6 p7 p8 p9 p10 : Pos}
theorem fng_keep (D : FunD K name qual params (initBody b self x f p1 p2 p3 p4 p5 p6 p7 p8 p9 p10) scope [] [] fI fd) (Bd : Binds K fd [self, x] []) (S : FnScope [self, x] [self, x] scope) (T : KeepC K C B newId initId mro) (free : PySem.W.takerIn K C f = some none)
    (sh : ∀ X : Cx, ∃ pl : Sem Bool, MethSh X (.Name b p1) "__init__" p2 [.Name self p3, .Name x p4] p5 pl ∧ Args1 X (.Name self p3) [.Name x p4] ∧ Args1 X (.Name x p4) [] ∧ NoStar X [.Name x p4] p5 ∧ swapsWith (.Call (.Attribute (.Name b p1) "__init__" p2) [.Name self p3, .Name x p4] [] p5) none p6.line X.env = pure false ∧ swapsWith (.Name x p9) (some (.Attribute (.Name self p7) f p8)) p10.line X.env = pure false)
    (bx : ∀ X : Cx, X.env.scope = scope → X.mg = mg → X.K = K → BuiltX X b B initId) (v0 : scope.names.lookup self = some .local) (v1 : scope.names.lookup x = some .local)
    (d0 : (self == ("__debug__" : Str)) = false ∧ (self == ("__classdict__" : Str)) = false := by decide) (d1 : (x == ("__debug__" : Str)) = false ∧ (x == ("__classdict__" : Str)) = false := by decide) :
    FnG P w K mg base CX (k + 1) 2 fI (spKeep C f) := by
  refine fng_of D Bd S rfl fun cdv A outer s H vs Q E _ _ sp => ?_
  obtain ⟨a, y, rfl, young, q⟩ := sp
  let X : Cx := cxOf CX P w K mg base [self, x] qual scope fI cdv A outer s H E
  obtain ⟨pl, z1, z2, z3, z4, z5, z6⟩ := sh X
  have c1 := ps_expr (pe_base (X := X) T (bx X rfl rfl rfl) rfl rfl (.inl v0) (.inl v1) d0 d1 z1 z2 z3 z4) z5
  have c2 := ps_keep (X := X) T free rfl rfl (.inl v0) (.inl v1) d0 d1 z6
  exact ⟨_, pss_cons c1 (pss_one c2), a, y, ⟨rfl, rfl, young⟩, a, y, ⟨rfl, rfl, young⟩, q⟩
end
end Dz
namespace Dz
open PySem PySem.Spec PyProof.Rows L2
/-- a class of errors over the built-in B that keeps the field f: what the written objects tell -/
structure KeepX (K : Frag) (c f : Str) (B newId initId : String) (mro : List Value) : Prop where
  cls : KeepC K (He.ga K c) B newId initId mro
  free : PySem.W.takerIn K (He.ga K c) f = some none
  ini : PySem.W.findIn K (.ref (He.ga K c)) "__init__" = some (some (.ref (He.ma K (He.ga K c) "__init__")))
  isF : PySem.W.typeIn K (.ref (He.ma K (He.ga K c) "__init__")) = some (.type "function")
end Dz
namespace Dz
open PySem PySem.Spec PyProof.Rows L2
/-- an error in the hand of a try of X: caught, no flight set -/
structure Hand (X : Cx) (pins : List (Addr × Obj)) (σ : L2.St) (H : Hp) (a : Addr) (cls : Value) (d : Option Addr) (s : Shared) : Prop where
  way : ∃ (B : Heap) (sI : Shared), Inv X pins σ H sI ∧ (∀ b o, sI.heap.get? b = some o → b ∉ frs X.stack → B.get? b = some o) ∧ sI.heap.UpToSlots s.heap ∧ HandSPX.FlyingZ B X.stack a (Zc cls d) s.heap ∧ s.os = sI.os ∧ AllBare s.gens
  off : H a = none
section
variable {X : Cx} {pins : List (Addr × Obj)} {σ : L2.St} {H : Hp} {a : Addr} {cls : Value} {d : Option Addr} {s : Shared}
theorem Hand.obj (h : Hand X pins σ H a cls d s) : ∃ oe vs, s.heap.get? a = some oe ∧ Zc cls d oe ∧ oe.data = .fields vs := by
  obtain ⟨⟨_, _, _, _, _, fl, _⟩, _⟩ := h
  exact fl.there
theorem Hand.far (h : Hand X pins σ H a cls d s) : a ∉ frs X.stack := fun hm => by
  obtain ⟨oe, vs, there, _, isF⟩ := h.obj
  obtain ⟨⟨_, _, _, _, _, fl, _⟩, _⟩ := h
  obtain ⟨_, o, here, no⟩ := fl.2.2.1.mem hm
  exact no vs (Option.some.inj (here.symm.trans there) ▸ isF)
end
end Dz
namespace Dz
open PySem PySem.Spec PyProof.Rows L2
theorem ExRep.mono {K : KW} {F F' : Hp} (e : Same F F') {x : Exn} {cls : Value} {d : Option Addr} (h : ExRep K F x cls d) : ExRep K F' x cls d := by
  obtain ⟨c, fs⟩ := x
  obtain ⟨h1, h2 | ⟨h0, dd, vs, h2, h3, h4⟩⟩ := h
  · exact ⟨h1, .inl h2⟩
  · exact ⟨h1, .inr ⟨h0, dd, vs, h2, e _ _ h3, RepF.mono e h4⟩⟩
end Dz
namespace Dz
open PySem PySem.Spec PyProof.Rows L2
abbrev ClX := List (Str × Bool) × (Exn → Option D)
end Dz
namespace Dz
open PySem PySem.Spec PyProof.Rows L2
/-- all that KeepX asks of the written objects, as one check -/
def keepB (c f : Str) (newId : String) (mro : List Value) (K : Frag) : Bool :=
  [PySem.W.excInitIn K (He.ga K c) mro newId, PySem.W.excOver K (He.ga K c) mro, PySem.W.hasDictIn K (He.ga K c), decide (PySem.W.findIn K (.ref (He.ga K c)) "__setattr__" = some (some (.builtin "object.__setattr__"))),
    decide (PySem.W.subIn K (.ref (He.ga K c)) (.type "BaseException") = some true), decide (PySem.W.typeIn K (.ref (He.ga K c)) = some (.type "type")), PySem.W.keepIn K (.ref (He.ga K c)), decide (PySem.W.takerIn K (He.ga K c) f = some none),
    decide (PySem.W.findIn K (.ref (He.ga K c)) "__init__" = some (some (.ref (He.ma K (He.ga K c) "__init__")))), decide (PySem.W.typeIn K (.ref (He.ma K (He.ga K c) "__init__")) = some (.type "function"))].all id
theorem keepX_ok {K : Frag} {c f : Str} {B newId initId : String} {mro : List Value} (F : CallX B newId initId mro) (SF : StoreFacts B mro "object.__setattr__" "object") (h : keepB c f newId mro K = true) : KeepX K c f B newId initId mro := by
  unfold keepB at h
  simp only [List.all_cons, List.all_nil, id, Bool.and_true, Bool.and_eq_true, decide_eq_true_eq] at h
  obtain ⟨h1, h2, h3, h4, h5, h6, h7, h8, h9, h10⟩ := h
  exact ⟨⟨F, SF, h1, h2, h3, h4, h5, h6, h7⟩, h8, h9, h10⟩
/-- .. for error.f of the classes cs -/
def fldB (cs : List Str) (f : Str) (K : Frag) : Bool := cs.all fun c => L2.xfB K (He.ga K c) && decide (PySem.W.findIn K (.ref (He.ga K c)) f = some none)
theorem fld_ok {K : Frag} {cs : List Str} {f : Str} (h : fldB cs f K = true) : ∀ c ∈ cs, L2.XfC K (He.ga K c) ∧ PySem.W.findIn K (.ref (He.ga K c)) f = some none := fun c hc => by
  obtain ⟨h1, h2⟩ := He.ba (List.all_eq_true.mp h c hc)
  exact ⟨L2.xfB_ok h1, of_decide_eq_true h2⟩
/-- .. for B.__init__ -/
def baseB (B initId : String) (K : Frag) : Bool := match PySem.W.findCls K (.type B) (.type "type") "__init__" with
  | some (.val v) => decide (v = .builtin initId)
  | _ => false
theorem base_ok {K : Frag} {B initId : String} (h : baseB B initId K = true) : PySem.W.findCls K (.type B) (.type "type") "__init__" = some (.val (.builtin initId)) := by
  unfold baseB at h
  split at h
  · rename_i v q
    rw [q, of_decide_eq_true h]
  · cases h
theorem builtX_of {K : Frag} {mg : Str → Option Value} {scope : Scope} {b : Str} {B initId : String} (gl : scope.names.lookup b = some .globalImplicit) (free : mg b = none) (boot : bootBuiltins b = some (.type B)) (plain : b ≠ "__name__" ∧ (b == ("__debug__" : Str)) = false)
    (typ : typeOf (.type B) = pure (.type "type")) (stub : Manifest.isStub B = false) (meth : PySem.W.findCls K (.type B) (.type "type") "__init__" = some (.val (.builtin initId))) (hand : PySem.W.handedIn (.builtin initId) = true) :
    ∀ X : Cx, X.env.scope = scope → X.mg = mg → X.K = K → BuiltX X b B initId := fun X es em eK => ⟨by
    show X.env.scope.names.lookup b = _
    rw [es]; exact gl, by rw [em]; exact free, boot, plain, typ, stub, by show PySem.W.findCls X.K (.type B) (.type "type") "__init__" = _; rw [eK]; exact meth, hand⟩
end Dz
namespace Dz
open PySem PySem.Spec PyProof.Rows L2
/-- all but the tables stays -/
theorem Wd.tabs {K : KW} {F G H H1 : Hp} {m : List Addr} {S : Sto} (w : Wd K F m G S H) (x : LamX.ExtN H H1) (t : LamX.Tabs (tabL K) H1) : Wd K F m G S H1 where
  sub := fun b o e => x b o (w.sub b o e) (w.fT b o e).1
  gsub := fun b o e => x b o (w.gsub b o e) (w.gT b o e).1
  gF := w.gF
  gm := w.gm
  len := w.len
  cells := fun n b o h1 h2 => by
    obtain ⟨u, hu, r⟩ := w.cells n b o h1 h2
    exact ⟨u, x b u hu (NT.of (p := b) r.pl).1, r⟩
  off := w.off
  inj := w.inj
  tab := t
  fT := w.fT
  gT := w.gT
def eLam (gm : M Vl → M Vl) (f : Env → M Vl) : Env → M Vl := fun ρ => noE (gm (f ρ))
/-- a def's promise: its code is told to the body -/
theorem fn_okC {P : Program} {w : World} {K : Frag} {mg : Str → Option Value} {base : Heap} {x qual : Str} {params : Arguments} {bd : List Stmt} {scope : Scope} {f : Addr} {fd : FuncData} {N ps : List Str} {k : Nat} {sf : Env → M Out} (F : FunD K x qual params bd scope [] [] f fd) (B : Binds K fd ps []) (S : FnScope N ps scope)
    (hb : ∀ (cdv : Value) (A : Around) (outer : List PySem.Env) (s : Shared) (H : Hp) (E : XK), codeAt K f = some cdv → Rm k (A.deeper (envOfC qual scope s.heap.objs.size f cdv)) → MSs (cxOf (CX P w) P w K mg base N qual scope f cdv A outer s H E) (erE ⟨K, w⟩ E) bd sf) :
    FnG P w K mg base (CX P w) (k + 1) ps.length f (spM ⟨K, w⟩ ps.length (fnM N.length sf)) :=
  fng_ofC F B S rfl fun cdv A outer s H vs Q E hc hr _ h => ⟨_, hb cdv A outer s H E hc hr, fn_body h⟩
/-- inside a lambda -/
theorem erOk_lam {X : Cx} {A : Around} {outer : List PySem.Env} {s : Shared} {H : Hp} {E : XK} {scope : Scope} {f c : Addr} : ErOk (LamX.lamCx X A outer s H E scope f c) (erE X.kw E) E := ⟨takes_of rfl rfl rfl rfl, fun _ _ _ h => h⟩
end Dz
namespace Dz
open PySem PySem.Spec PySem.Calls PyProof.Rows L2
end Dz
namespace Dz
open PySem L2
section
variable {gm : M Vl → M Vl} {p : M Vl} {f h : Env → M Vl} {fs : Env → M (List Vl)} {g : Vl → Vl → M Vl} {φ : List Vl → M Vl} {ρ : Env} {S : Sto} {Q : Vl → Sto → Prop} {E : Exn → Sto → Prop} {cl : List ClX} {v : D} {c m : Str}
theorem w_lam : wp (eLam gm f ρ) S Q ↔ wp (gm (f ρ)) S Q := wp_noE
end
section
variable {i j k : Nat} {x y z : D} {ρ : Env} {S : Sto} {Q : Env → Sto → Prop}
theorem w_gset1 : wp (gSet (.one i) x ρ) S Q ↔ Q (ρ.set i (some (.d x))) S := wp_pur
theorem w_gset2 : wp (gSet (.tup [i, j]) (.tup [x, y]) ρ) S Q ↔ Q ((ρ.set i (some (.d x))).set j (some (.d y))) S := wp_pur
theorem w_gset3 : wp (gSet (.tup [i, j, k]) (.tup [x, y, z]) ρ) S Q ↔ Q (((ρ.set i (some (.d x))).set j (some (.d y))).set k (some (.d z))) S := wp_pur
end
end Dz
namespace Dz
open PySem PySem.Spec PyProof.Rows L2
end Dz
namespace Dz
open PySem PySem.Spec PyProof.Rows L2
def bReprD (xs : List Vl) : M Vl := match xs with
  | [.d (.dct [])] => pur (.d (.str "{}"))
  | xs => bReprX xs
theorem cm_reprD {X : Cx} {Er : ErT} (gd : X.A.guards = some []) (hu : X.A.units + 200 < cLine) : CallM X Er (.builtin "repr") bReprD := fun pins s σ H vs us Q I rx ⟨F, m, Gh, S, xs, w, ra, z⟩ => by
  have other : bReprX xs S = bReprD xs S → wpAny (model X.prog X.w) X.A (call (.builtin "repr") us) (EP X pins σ Q) X.xe s := fun e => cm_reprG gd hu pins s σ H vs us Q I rx ⟨F, m, Gh, S, xs, w, ra, e.symm ▸ z⟩
  unfold bReprD at other z
  split at z
  · cases ra with
    | cons r1 r2 =>
    cases r2
    cases (show Rep X.kw F (.dct []) _ from r1) with
    | dct ha rk =>
    cases rk
    obtain ⟨u, rfl, ru⟩ := vals1 rx
    cases ru
    obtain ⟨_, far, kvs, rv, o, es, ep, at_, ex, dt, _, pr, _⟩ := (show ObjOk X.prog X.w H s.heap _ (.dK []) from (rdS w.sub ha).ok I.hok)
    cases rv
    have none_ : es.toList = [] := by
      cases e : es.toList with
      | nil => rfl
      | cons x l => rw [e] at pr; cases pr
    have rd : Reads s.heap (.ref _) (.dict []) _ := Reads.dict (as := []) (bs := []) at_ ex.1 dt (by rw [none_]; exact .nil) (by rw [none_]; exact .nil)
    refine repr_of_reads' rd rfl (fun _ hm => ?_) gd (by show X.A.units + (_ + 1) < cLine; simp only [PyData.depth, PyData.depthKv]; omega) (fun _ _ e => e) (fun h' u tk hk => ⟨.str "{}", H, I.kept hk, ⟨u, congrArg (fun z => Value.str z u) (show (PyData.dict []).shown = ("{}" : Str) by decide +kernel)⟩, res_ok w (.str _) z⟩) (by decide +kernel)
    rcases List.mem_cons.mp hm with e | e
    · rw [e] at far
      simp at far
    · cases e
  · exact other (by
      rename_i n
      split
      · exact (n rfl).elim
      · rfl)
end Dz
namespace Dz
open PySem PySem.Spec PyProof.Rows L2
inductive PatI where
  | lit (x : Str) | lits (xs : List Str) | var (i : Nat) | wild | as (xs : List Str) (i : Nat)
abbrev Bds := List (Nat × D)
def pLit (g : Vl → Vl → M Vl) (x : Str) (d : D) : M Bool := bnd (g (.d d) (.d (.str x))) asB
def pLits (g : Vl → Vl → M Vl) (d : D) : List Str → M Bool
  | [] => pur false
  | x :: xs => bnd (pLit g x d) fun k => match k with
    | true => pur true
    | false => pLits g d xs
def ifB (bs : Bds) (k : Bool) : M (Option Bds) := match k with
  | true => pur (some bs)
  | false => pur none
def p1 (g : Vl → Vl → M Vl) : PatI → D → M (Option Bds)
  | .lit x, d => bnd (pLit g x d) (ifB [])
  | .lits xs, d => bnd (pLits g d xs) (ifB [])
  | .var i, d => pur (some [(i, d)])
  | .wild, _ => pur (some [])
  | .as xs i, d => bnd (pLits g d xs) (ifB [(i, d)])
inductive RBs (X : Cx) (F : Hp) : Bds → List (Str × Value) → Prop
  | nil : RBs X F [] []
  | cons {i : Nat} {d : D} {x : Str} {v : V} {u : Value} {bs : Bds} {us : List (Str × Value)} : X.N[i]? = some x → Loc X.env.scope x → (X.fn x = true ∨ X.env.scope.names.lookup x = some .local) → Rep X.kw F d v → RelV v u → RBs X F bs us → RBs X F ((i, d) :: bs) ((x, u) :: us)
theorem RBs.mono {X : Cx} {F F' : Hp} (e : Same F F') : ∀ {bs : Bds} {us : List (Str × Value)}, RBs X F bs us → RBs X F' bs us
  | _, _, .nil => .nil
  | _, _, .cons a b c r q t => .cons a b c (r.mono e) q (RBs.mono e t)
theorem RBs.append {X : Cx} {F : Hp} : ∀ {bs cs : Bds} {us ws : List (Str × Value)}, RBs X F bs us → RBs X F cs ws → RBs X F (bs ++ cs) (us ++ ws)
  | _, _, _, _, .nil, r => r
  | _, _, _, _, .cons a b c r q t, z => .cons a b c r q (t.append z)
def RBo (X : Cx) (F : Hp) : Option Bds → Option (List (Str × Value)) → Prop
  | some bs, some us => RBs X F bs us
  | none, none => True
  | _, _ => False
/-- what a pattern's walk ends in -/
def AtB {α β : Type} (X : Cx) (pins : List (Addr × Obj)) (σ : L2.St) (F : Hp) (m : List Addr) (G : Hp) (Rel : Hp → α → β → Prop) (a : α) (S' : Sto) (b : β) (s' : Shared) : Prop :=
  ∃ F' m' H', Inv X pins σ H' s' ∧ Ext F F' m m' ∧ Wd X.kw F' m' G S' H' ∧ Rel F' a b
/-- a pattern for one datum -/
def MP (X : Cx) (p : Pattern) (q : D → M (Option Bds)) : Prop := ∀ (pins : List (Addr × Obj)) (s : Shared) (σ : L2.St) (H F : Hp) (m : List Addr) (G : Hp) (S : Sto) (d : D) (v : V) (u : Value) (r : Option Bds) (S' : Sto),
  Inv X pins σ H s → Wd X.kw F m G S H → Rep X.kw F d v → RelV v u → q d S = .ok r S' → wpAny (model X.prog X.w) X.A (matchPattern p X.env u) (AtB X pins σ F m G (RBo X) r S') X.xe s
section
variable {X : Cx} {g : Vl → Vl → M Vl} {pins : List (Addr × Obj)} {s : Shared} {σ : L2.St} {H F : Hp} {m : List Addr} {G : Hp} {S S' : Sto} {pos pos' : Pos} {j : Nat}
/-- the patterns of several texts -/
inductive LitPs : List Pattern → List Str → Prop
  | nil : LitPs [] []
  | cons {x : Str} {j : Nat} {pos pos' : Pos} {ps : List Pattern} {xs : List Str} : LitPs ps xs → LitPs (.MatchValue (.Constant (.str x) j pos) pos' :: ps) (x :: xs)
theorem LitPs.names {ps : List Pattern} {xs : List Str} (l : LitPs ps xs) : namesOfAll (ps.take 1) = [] := by
  cases l <;> rfl
/-- the items of a tuple -/
inductive MPs (X : Cx) (g : Vl → Vl → M Vl) : List Pattern → List PatI → Prop
  | nil : MPs X g [] []
  | cons {p : Pattern} {q : PatI} {ps : List Pattern} {qs : List PatI} : MP X p (p1 g q) → MPs X g ps qs → (p.isStar = false) → MPs X g (p :: ps) (q :: qs)
theorem MPs.length {ps : List Pattern} {qs : List PatI} (h : MPs X g ps qs) : ps.length = qs.length := by
  induction h with
  | nil => rfl
  | cons _ _ _ ih => exact congrArg (· + 1) ih
end
end Dz
namespace Dz
open PySem PySem.Spec PyProof.Rows L2
section
variable {K : KW} {F : Hp} {m : List Addr}
theorem RepVs.take (n : Nat) : ∀ {xs : List Vl} {vs : List V}, RepVs K F m xs vs → RepVs K F m (xs.take n) (vs.take n) := by
  induction n with
  | zero => intro _ _ _; exact .nil
  | succ n ih =>
    intro xs vs r
    cases r with
    | nil => exact .nil
    | cons a b => exact .cons a (ih b)
theorem RepVs.drop (n : Nat) : ∀ {xs : List Vl} {vs : List V}, RepVs K F m xs vs → RepVs K F m (xs.drop n) (vs.drop n) := by
  induction n with
  | zero => intro _ _ r; exact r
  | succ n ih =>
    intro xs vs r
    cases r with
    | nil => exact .nil
    | cons a b => exact ih b
theorem RepVs.app : ∀ {xs ys : List Vl} {vs us : List V}, RepVs K F m xs vs → RepVs K F m ys us → RepVs K F m (xs ++ ys) (vs ++ us)
  | _, _, _, _, .nil, r => r
  | _, _, _, _, .cons a b, r => .cons a (b.app r)
end
end Dz
namespace Dz
open PySem PySem.Spec PyProof.Rows L2
end Dz
namespace Dz
open PySem PySem.Spec PyProof.Rows L2
end Dz
namespace Dz
open PySem PySem.Spec PyProof.Rows L2 PySem.SeqAt
open AutoSeq1 (wpAny_loadPart')
open MeetsSeq MeetsSeq2 MeetsSeq3 SeqRoads2
abbrev dicO (es : Array DictEntry) (n : Nat) (dd : Option Addr) (sl : Array (Option Value)) : Obj := { cls := .type "dict", dict := dd, data := .dict es n, slots := sl }
end Dz
namespace Dz
open PySem PySem.Spec PyProof.Rows L2 PySem.SeqAt
def IsDic (h : Heap) (a : Addr) : Prop := ∃ es n dd sl, h.get? a = some (dicO es n dd sl)
mutual
inductive Hd (h : Heap) : Value → D → Prop
  | non : Hd h .none .non
  | bl (x : Bool) : Hd h (.bool x) (.bl x)
  | int (x : Int) (t : Tok) : Hd h (.int x t) (.int x)
  | str (x : Str) (t : Tok) : Hd h (.str x t) (.str x)
  | tup {a : Addr} {us : List Value} {ds : List D} : h.IsTuple a us.toArray → Hds h us ds → Hd h (.ref a) (.tup ds)
  | lst {a : Addr} {us : List Value} {ds : List D} : h.IsList a us.toArray → Hds h us ds → Hd h (.ref a) (.lst ds)
  | dct {a : Addr} {kvs : List (Key × D)} : IsDic h a → Hd h (.ref a) (.dct kvs)
  | oth {u : Value} {d : D} : (∀ e : D, d ≠ e ∨ True) → (match d with | .ty _ | .scr _ | .ins _ _ | .cls _ | .dcN _ | .exn _ _ => True | _ => False) → Hd h u d
inductive Hds (h : Heap) : List Value → List D → Prop
  | nil : Hds h [] []
  | cons {u : Value} {d : D} {us : List Value} {ds : List D} : Hd h u d → Hds h us ds → Hds h (u :: us) (d :: ds)
end
end Dz
namespace Dz
open PySem PySem.Spec PyProof.Rows L2 PySem.SeqAt
theorem Hds.length {h : Heap} : ∀ {us : List Value} {ds : List D}, Hds h us ds → us.length = ds.length
  | _, _, .nil => rfl
  | _, _, .cons _ r => congrArg (· + 1) r.length
theorem Hds.get {h : Heap} : ∀ {us : List Value} {ds : List D} {j : Nat} {u : Value}, Hds h us ds → us[j]? = some u → ∃ d, ds[j]? = some d ∧ Hd h u d
  | _, _, _, _, .nil, h => by simp at h
  | _, _, 0, _, .cons r _, h => by simp at h; subst h; exact ⟨_, rfl, r⟩
  | _, _, j + 1, _, .cons _ r, h => by
    obtain ⟨d, h1, h2⟩ := Hds.get (j := j) r (by simpa using h)
    exact ⟨d, by simpa using h1, h2⟩
end Dz
namespace Dz
open PySem PySem.Spec PyProof.Rows L2 PySem.SeqAt
end Dz
namespace Dz
open PySem PySem.Spec PyProof.Rows L2
def catM (g k : M (List D)) : M (List D) := bnd g fun ys => bnd k fun zs => pur (ys ++ zs)
/-- what is still to come -/
def ToCome (K : KW) (G : Hp) (Q : VK) (F : Hp) (m : List Addr) (S : Sto) (dn : List D) (g : M (List D)) : Prop := match g S with
  | .ok rs S' => ∀ (F' : Hp) (m' : List Addr) (H' : Hp) (q : Addr) (vs : List V), Ext F F' m m' → Wd K F' m' (upd G q (.lst vs)) S' H' → G q = none → Reps K F' (dn ++ rs) vs → Q (.ref q) H'
  | _ => False
section
variable {K : KW} {G : Hp} {Q : VK} {F F1 : Hp} {m m1 : List Addr} {S S1 : Sto} {dn : List D} {g k : M (List D)}
theorem ToCome.ext (e : Ext F F1 m m1) (h : ToCome K G Q F m S dn g) : ToCome K G Q F1 m1 S dn g := by
  unfold ToCome at h ⊢
  cases q : g S with
  | ok rs S' => rw [q] at h; exact fun F' m' H' q vs e' => h F' m' H' q vs (e.trans e')
  | err => rw [q] at h; exact h
  | no => rw [q] at h; exact h
theorem ToCome.bnd_ {α : Type} {a : M α} {b : α → M (List D)} (h : ToCome K G Q F m S dn (bnd a b)) : ∃ x S1, a S = .ok x S1 ∧ ToCome K G Q F m S1 dn (b x) := by
  unfold ToCome bnd at h
  cases q : a S with
  | ok x S1 => rw [q] at h; exact ⟨x, S1, rfl, h⟩
  | err => rw [q] at h; exact h.elim
  | no => rw [q] at h; exact h.elim
theorem ToCome.bndC {α : Type} {a : M α} {b : α → M (List D)} (h : ToCome K G Q F m S dn (catM (bnd a b) k)) : ∃ x S1, a S = .ok x S1 ∧ ToCome K G Q F m S1 dn (catM (b x) k) := by
  unfold catM at h
  rw [bnd_bnd] at h
  exact h.bnd_
theorem ToCome.cons {y : D} (h : ToCome K G Q F m S dn (catM (bnd g fun ys => pur (y :: ys)) k)) : ToCome K G Q F m S (dn ++ [y]) (catM g k) := by
  obtain ⟨ys, S1, h1, h2⟩ := h.bndC
  obtain ⟨us, S2, h3, h4⟩ := ToCome.bnd_ h2
  cases h3
  obtain ⟨zs, S3, h5, h6⟩ := h4.bnd_
  unfold ToCome catM bnd
  rw [h1]
  simp only []
  rw [h5]
  simp only [pur]
  unfold ToCome pur at h6
  intro F' m' H' q vs e w hG rr
  exact h6 F' m' H' q vs e w hG (by simpa [List.append_assoc] using rr)
theorem ToCome.nil (h : ToCome K G Q F m S dn (catM (pur []) k)) : ToCome K G Q F m S dn k := by
  obtain ⟨zs, S1, h1, h2⟩ := ToCome.bnd_ (show ToCome K G Q F m S dn (bnd k fun zs => pur ([] ++ zs)) from h)
  unfold ToCome
  rw [h1]
  exact h2
theorem ToCome.fin (h : ToCome K G Q F m S dn (pur [])) : ∀ (F' : Hp) (m' : List Addr) (H' : Hp) (q : Addr) (vs : List V), Ext F F' m m' → Wd K F' m' (upd G q (.lst vs)) S H' → G q = none → Reps K F' dn vs → Q (.ref q) H' := by
  unfold ToCome pur at h
  simp only [List.append_nil] at h
  exact h
end
end Dz
namespace Dz
open PySem PySem.Spec PyProof.Rows L2
end Dz
namespace Dz
open PySem PySem.Spec PyProof.Rows L2
end Dz
namespace Dz
open PySem PySem.Spec PyProof.Rows L2 PySem.SeqAt
open AutoSeq1 (wpAny_loadPart')
open MeetsSeq MeetsSeq2 MeetsSeq3 SeqRoads2
end Dz
namespace Dz
open PySem PySem.Spec PyProof.Rows L2
end Dz
namespace Dz
open PySem PySem.Spec PyProof.Rows L2
open AutoSeq1 (wpAny_loadPart')
end Dz
namespace Dz
open PySem PySem.Spec PyProof.Rows L2
end Dz
namespace Dz
open PySem PySem.Spec PyProof.Rows L2
mutual
def pyOfE : D → Option PyData
  | .non => some .none
  | .bl b => some (.bool b)
  | .int i => some (.int i)
  | .str x => some (.str x)
  | .dct [] => some (.dict [])
  | .tup xs => match pyOfEs xs with
    | some ps => some (.tuple ps)
    | none => none
  | .lst xs => match pyOfEs xs with
    | some ps => some (.list ps)
    | none => none
  | _ => none
def pyOfEs : List D → Option (List PyData)
  | [] => some []
  | x :: xs => match pyOfE x, pyOfEs xs with
    | some p, some ps => some (p :: ps)
    | _, _ => none
end
section
variable {X : Cx} {pins : List (Addr × Obj)} {σ : L2.St} {H F : Hp} {s : Shared}
/-- it is read, and repr tells it -/
def ShowK (P : Program) (w : World) (h : Heap) (u : Value) (p : PyData) : Prop := (∃ as, Reads h u p as) ∧ (p.showable = true → p.shown.length ≤ sizeLine → ∃ bs, ReadAtMost h p.depth bs ∧ ReprK P w bs h p.depth u p.shown)
def ShowsK (P : Program) (w : World) (h : Heap) (us : List Value) (ps : List PyData) : Prop := (∃ as, ReadsAll h us ps as) ∧ (PyData.showableAll ps = true → (∀ t ∈ PyData.shownAll ps, t.length ≤ sizeLine) → ∃ bs, ReadAtMost h (PyData.depthAll ps) bs ∧ ReprAllK P w bs h (PyData.depthAll ps) us (PyData.shownAll ps))
theorem showK_flat {P : Program} {w : World} {h : Heap} {u : Value} {p : PyData} {as : List Addr} (r : Reads h u p as) (k : p.hasDict = false) : ShowK P w h u p :=
  ⟨⟨as, r⟩, fun h1 h2 => ReprK.of_reads r h1 (PyData.noDict_hsm k) h2⟩
theorem showK_lst {P : Program} {w : World} {h : Heap} {a : Addr} {o : Obj} {its : Array Value} {n : Nat} {ps : List PyData} (ho : h.get? a = some o) (hc : o.cls = .type "list") (hd : o.data = .seq its n) (z : ShowsK P w h its.toList ps) : ShowK P w h (.ref a) (.list ps) := by
  obtain ⟨⟨as, ra⟩, z⟩ := z
  have r : Reads h (.ref a) (.list ps) (a :: as) := .list ho hc hd ra
  refine ⟨⟨_, r⟩, fun h1 h2 => ?_⟩
  rw [PyData.showable] at h1
  rw [PyData.shown] at h2
  obtain ⟨bs, hb, hk⟩ := z h1 fun t ht => Nat.le_trans (listText_mem_le ht) h2
  have off : a ∉ bs := not_mem_of_deeper r (by rw [PyData.depth]; omega) hb
  refine ⟨a :: bs, ReadAtMost.cons r (by rw [PyData.depth]; omega) hb, ?_⟩
  rw [PyData.depth, PyData.shown]
  obtain ⟨l⟩ := its
  cases l with
  | nil =>
    cases (show ReadsAll h [] ps as from ra)
    rw [PyData.shownAll, listText_nil]
    exact ReprK.listEmpty ho hc hd
  | cons x l => exact ReprK.list ho hc hd off (by simpa using hk.length_eq) fun i y e => hk.item i y (by simpa using e)
theorem showK_tup {P : Program} {w : World} {h : Heap} {a : Addr} {o : Obj} {its : Array Value} {n : Nat} {ps : List PyData} (ho : h.get? a = some o) (hc : o.cls = .type "tuple") (hd : o.data = .seq its n) (z : ShowsK P w h its.toList ps) : ShowK P w h (.ref a) (.tuple ps) := by
  obtain ⟨⟨as, ra⟩, z⟩ := z
  have r : Reads h (.ref a) (.tuple ps) as := .tuple ho hc hd ra
  refine ⟨⟨_, r⟩, fun h1 h2 => ?_⟩
  rw [PyData.showable] at h1
  rw [PyData.shown] at h2
  obtain ⟨bs, hb, hk⟩ := z h1 fun t ht => Nat.le_trans (tupleText_mem_le ht) h2
  have off : a ∉ bs := not_mem_of_deeper r (by rw [PyData.depth]; omega) hb
  refine ⟨a :: bs, ReadAtMost.cons r (by rw [PyData.depth]; omega) hb, ?_⟩
  rw [PyData.depth, PyData.shown]
  exact ReprK.tuple ho hc hd off hk
theorem showK_dct {P : Program} {w : World} {h : Heap} {a : Addr} {o : Obj} {es : Array DictEntry} {n : Nat} (ho : h.get? a = some o) (hc : o.cls = .type "dict") (hd : o.data = .dict es n) (he : es.toList = []) (far : (a == sysModules) = false) : ShowK P w h (.ref a) (.dict []) := by
  have r : Reads h (.ref a) (.dict []) _ := Reads.dict (as := []) (bs := []) ho hc hd (by rw [he]; exact .nil) (by rw [he]; exact .nil)
  refine ⟨⟨_, r⟩, fun h1 h2 => ReprK.of_reads r h1 (fun _ hm => ?_) h2⟩
  rcases List.mem_cons.mp hm with e | e
  · rw [e] at far
    simp at far
  · cases e
theorem showsK_cons {P : Program} {w : World} {h : Heap} {u : Value} {us : List Value} {p : PyData} {ps : List PyData} (a : ShowK P w h u p) (b : ShowsK P w h us ps) : ShowsK P w h (u :: us) (p :: ps) := by
  obtain ⟨⟨as, ra⟩, za⟩ := a
  obtain ⟨⟨bs, rb⟩, zb⟩ := b
  refine ⟨⟨_, .cons ra rb⟩, fun h1 h2 => ?_⟩
  rw [PyData.showableAll, Bool.and_eq_true] at h1
  obtain ⟨b1, k1, r1⟩ := za h1.1 (h2 _ (by rw [PyData.shownAll]; exact List.mem_cons_self ..))
  obtain ⟨b2, k2, r2⟩ := zb h1.2 fun t ht => h2 t (by rw [PyData.shownAll]; exact List.mem_cons_of_mem _ ht)
  refine ⟨b1 ++ b2, ?_, ?_⟩
  · rw [PyData.depthAll]
    exact (k1.mono (Nat.le_max_left _ _)).append (k2.mono (Nat.le_max_right _ _))
  · rw [PyData.depthAll, PyData.shownAll]
    exact .cons ((r1.more fun b hb => List.mem_append_left _ hb).level_le (Nat.le_max_left _ _)) (r2.more_le (fun b hb => List.mem_append_right _ hb) (Nat.le_max_right _ _))
mutual
theorem showK (I : L2.Inv X pins σ H s) (sm : Same F H) : ∀ {d : D} {v : V} {u : Value} {p : PyData}, Rep X.kw F d v → RelV v u → pyOfE d = some p → ShowK X.prog X.w s.heap u p
  | _, _, _, _, .non, r, h => by cases h; cases r; exact showK_flat .none rfl
  | _, _, _, _, .bl b, r, h => by cases h; cases r; exact showK_flat (.bool b) rfl
  | _, _, _, _, .int i, r, h => by cases h; obtain ⟨t, rfl⟩ := r; exact showK_flat (.int i t) rfl
  | _, _, _, _, .str x, r, h => by cases h; obtain ⟨t, rfl⟩ := r; exact showK_flat (.str x t) rfl
  | _, _, _, _, .ty n, _, h => by cases h
  | _, _, _, _, .scr _, _, h => by cases h
  | _, _, _, _, .dcN _ _, _, h => by cases h
  | _, _, _, _, .exn _ _, _, h => by cases h
  | _, _, _, _, .exk _ _ _ _, _, h => by cases h
  | _, _, _, _, .ins _ _, _, h => by cases h
  | _, _, _, _, .cls _, _, h => by cases h
  | _, _, _, _, .tup ht rs, r, h => by
    unfold pyOfE at h
    split at h
    · rename_i q
      cases h
      cases r
      obtain ⟨its, rv, ⟨o, ho, hc, n, hd⟩, _⟩ := I.tuple (sqT_mono sm ht)
      exact showK_tup ho hc hd (showsK I sm rs (by simpa using rv) q)
    · cases h
  | _, _, _, _, .lst ht rs, r, h => by
    unfold pyOfE at h
    split at h
    · rename_i q
      cases h
      cases r
      obtain ⟨its, rv, ⟨o, n, ho, hc, _, hd⟩, _⟩ := I.list (sm.seq (SqL.of ht))
      exact showK_lst ho hc hd (showsK I sm rs (by simpa using rv) q)
    · cases h
  | _, _, _, _, .dct (kvs := kvs) ha rk, r, h => by
    cases kvs with
    | cons a l => cases h
    | nil =>
      cases h
      cases rk
      cases r
      obtain ⟨_, far, kvs, rv, o, es, ep, at_, ex, dt, _, pr, _⟩ := (show ObjOk X.prog X.w H s.heap _ (.dK []) from (rdS sm ha).ok I.hok)
      cases rv
      refine showK_dct at_ ex.1 dt ?_ far
      cases e : es.toList with
      | nil => rfl
      | cons x l => rw [e] at pr; cases pr
theorem showsK (I : L2.Inv X pins σ H s) (sm : Same F H) : ∀ {ds : List D} {vs : List V} {us : List Value} {ps : List PyData}, Reps X.kw F ds vs → Vals vs us → pyOfEs ds = some ps → ShowsK X.prog X.w s.heap us ps
  | _, _, _, _, .nil, r, h => by
    cases h
    cases r
    exact ⟨⟨_, .nil⟩, fun _ _ => ⟨[], fun _ h => (by cases h), by rw [PyData.shownAll]; exact .nil⟩⟩
  | _, _, _, _, .cons h0 rs, r, h => by
    unfold pyOfEs at h
    split at h
    · rename_i p ps q1 q2
      cases h
      cases r with
      | cons r0 r1 => exact showsK_cons (showK I sm h0 r0 q1) (showsK I sm rs r1 q2)
    · cases h
end
end
def shwE (p : PyData) : Bool := PyData.showable p && (decide (PyData.depth p ≤ 100) && decide (p.shown.length ≤ 100000))
def bReprE (xs : List Vl) : M Vl := match xs with
  | [.d (.lst ds)] => opt (pyOfE (.lst ds)) fun p => if shwE p = true then pur (.d (.str p.shown)) else stuck
  | xs => bReprD xs
theorem cm_reprE {X : Cx} {Er : ErT} (gd : X.A.guards = some []) (hu : X.A.units + 200 < cLine) : CallM X Er (.builtin "repr") bReprE := fun pins s σ H vs us Q I rx ⟨F, m, Gh, S, xs, w, ra, z⟩ => by
  have other : bReprD xs S = bReprE xs S → wpAny (model X.prog X.w) X.A (call (.builtin "repr") us) (EP X pins σ Q) X.xe s := fun e => cm_reprD gd hu pins s σ H vs us Q I rx ⟨F, m, Gh, S, xs, w, ra, e.symm ▸ z⟩
  unfold bReprE at other z
  split at z
  · rename_i ds
    cases ra with
    | cons r1 r2 =>
    cases r2
    obtain ⟨p, hp, z⟩ := res_opt z
    by_cases hs : shwE p = true
    · rw [if_pos hs] at z
      unfold shwE at hs
      simp only [Bool.and_eq_true, decide_eq_true_eq] at hs
      obtain ⟨h1, h2, h3⟩ := hs
      have q := res_ok w (.str _) z
      have sz : p.shown.length ≤ sizeLine := sz5 h3
      cases (show Rep X.kw F (.lst ds) _ from r1) with
      | lst ht rs =>
      obtain ⟨u, rfl, ru⟩ := vals1 rx
      cases ru
      obtain ⟨its, rv, ⟨o, n, ho, hc, _, hd⟩, _⟩ := I.list (w.sub.seq (SqL.of ht))
      unfold pyOfE at hp
      split at hp
      · rename_i ps qs
        cases hp
        obtain ⟨⟨as, rd⟩, sh⟩ := showsK I w.sub rs rv qs
        rw [PyData.showable] at h1
        rw [PyData.shown] at sz q
        rw [PyData.depth] at h2
        obtain ⟨bs, hb, hk⟩ := sh h1 fun t ht => Nat.le_trans (listText_mem_le ht) sz
        have off : _ ∉ bs := not_mem_of_deeper (.list ho hc hd rd) (by rw [PyData.depth]; omega) hb
        have fin : ∀ h' u tk, (∀ b o, s.heap.get? b = some o → h'.get? b = some o) → ∃ x t, Value.str (listText (PyData.shownAll ps)) u = .str x t ∧ EP X pins σ Q (Value.str (listText (PyData.shownAll ps)) u) { s with heap := h', toks := tk } :=
          fun h' u tk hk => ⟨_, _, rfl, .str _, H, I.kept hk, ⟨u, rfl⟩, q⟩
        refine call_repr_slot (by omega) (⟨o, ho, hc⟩ : s.TypeIs (.ref _) "list") PySem.F.slot_list_repr.toG ?_
        cases its with
        | nil =>
          cases (show ReadsAll s.heap [] ps as from rd)
          refine call_list_repr_empty ⟨o, ho, hc⟩ ho hd ?_
          have := fin s.heap
          rw [PyData.shownAll, listText_nil] at this
          exact this _ _ fun _ _ e => e
        | cons x l => exact call_list_reprK ho hc hd off (by simpa using hk.length_eq) (fun i y e => hk.item i y (by simpa using e)) (show X.A.in1.guards = some [] from gd) (fun b _ => Clear.nil b) (by show X.A.units + 1 + _ < cLine; omega) (fun _ _ e => e) fin sz
      · cases hp
    · rw [if_neg hs] at z; exact z.elim
  · exact other (by
      rename_i n
      split
      · rename_i ds
        exact (n ds rfl).elim
      · rfl)
theorem cm_reprEX {X : Cx} {Er : ErT} {k : Nat} (hr : Rm k X.A) : CallM X Er (.builtin "repr") bReprE := cm_reprE hr.gd (by have := hr.room.un; omega)
end Dz
namespace Dz
open PySem PySem.Spec PyProof.Rows L2
end Dz
namespace Dz
open PySem PySem.Spec PyProof.Rows L2
end Dz
namespace Dz
open PySem PySem.Spec PyProof.Rows L2
end Dz
namespace Dz
open PySem PySem.Spec PySem.Calls PyProof.Rows L2
end Dz
namespace Dz
open PySem PySem.Spec PyProof.Rows L2
end Dz
namespace Dz
open PySem PySem.Spec PyProof.Rows L2
end Dz
namespace Dz
end Dz
namespace Dz
open PySem PySem.Spec PyProof.Rows L2
end Dz
namespace Dz
open PySem PySem.Spec PyProof.Rows L2
end Dz
namespace Dz
open PySem PySem.Spec PyProof.Rows L2
end Dz
namespace Dz
open PySem PySem.Spec PyProof.Rows L2
end Dz
namespace Dz
open PySem PySem.Spec PyProof.Rows L2
end Dz
namespace Dz
open PySem PySem.Spec PyProof.Rows L2
/-- a def's promise: n positional values, keywords of the names ks; gV makes the list of all values of them -/
def FnGK (P : Program) (w : World) (K : Frag) (mg : Str → Option Value) (base : Heap) (CX : CXT) (k n : Nat) (ks : List Str) (gV : List V → List V → List V) (f : Addr) (sp : Sp) : Prop :=
  ∀ (A : Around) (outer : List PySem.Env) (s : Shared) (H : Hp) (us ws : List Value) (vs zs : List V) (Q : VK) (E : XK), Rm k A → Env0 P w K mg base A outer s H → Vals vs us → vs.length = n → Vals zs ws → zs.length = ks.length → sp (gV vs zs) H Q E →
    codeAny (model P w) A (.call (.ref f) ⟨us, ks.zip ws⟩) (CR CX outer P w H s Q E) s
section
variable {P : Program} {w : World} {K : Frag} {mg : Str → Option Value} {base : Heap} {CX : CXT} {j k n : Nat} {ks : List Str} {g : List Value → List Value → List Value} {gV : List V → List V → List V} {f : Addr} {sp : Sp}
theorem FnGK.mono (F : FnGK P w K mg base CX j n ks gV f sp) (h : j ≤ k) : FnGK P w K mg base CX k n ks gV f sp := fun A outer s H us ws vs zs Q E hr => F A outer s H us ws vs zs Q E (hr.mono h)
end
end Dz
namespace Dz
open PySem PySem.Spec PyProof.Rows L2
end Dz
namespace Dz
open PySem PySem.Spec PyProof.Rows L2
/-- neither a dict nor held fast -/
def plU : HO → Bool
  | .dK _ => false
  | .frz _ _ => false
  | _ => true
/-- F' is F, but for how the dict at d is held -/
structure Swp (F F' : Hp) (d : Addr) (vs : List (Key × V)) : Prop where
  off : ∀ b, b ≠ d → F' b = F b
  one : Rd F d (.dK vs)
  two : Rd F' d (.dK vs)
section
variable {K : KW} {F F' : Hp} {d : Addr} {vs0 : List (Key × V)} (x : Swp F F' d vs0)
include x
theorem Swp.far {a : Addr} {u : HO} (h : Rd F a u) (n : plU u = true) : a ≠ d := fun e => by
  subst e
  rcases h with h | ⟨o, h⟩ <;> rcases x.one with q | ⟨o', q⟩
  · rw [h] at q; cases q; cases n
  · rw [h] at q; cases q; cases n
  · rw [h] at q; cases q
  · rw [h] at q; cases q; cases n
theorem Swp.at_ {a : Addr} {u : HO} (h : F a = some u) (n : plU u = true) : F' a = some u := (x.off a (x.far (.inl h) n)).trans h
end
end Dz
namespace Dz
open PySem PySem.Spec PyProof.Rows L2
end Dz
namespace Dz
open PySem PySem.Spec PyProof.Rows L2
def frR (n : Nat) (g : Addr → Option Obj) : Frag := He.frT g (List.range n)
def obsR (n : Nat) (fz : List Fz) (fn : List DefZ) (g : Addr → Option Obj) : AlZ := ((obsZ fz fn (frR n g)).1 && emptB g (frR n g), (obsZ fz fn (frR n g)).2)
theorem holdsR_of {n : Nat} {fz : List Fz} {fn : List DefZ} {h : Heap} (e : obsR n fz fn h.get? = valZ fn) : HoldsZ fz fn h := by
  have e1 : ((obsZ fz fn (frR n h.get?)).1 && emptB h.get? (frR n h.get?)) = true := congrArg Prod.fst e
  have e2 : (obsZ fz fn (frR n h.get?)).2 = fn.map DefZ.val := congrArg Prod.snd e
  obtain ⟨a, b⟩ := He.ba e1
  exact ⟨frR n h.get?, ⟨He.frT_in, emptB_ok b⟩, Prod.ext a e2⟩
end Dz
namespace Dz
open PySem PySem.Spec PyProof.Rows L2
def hookQ (fz : List Fz) (fn : List DefZ) : PySem.W.Hook where
  α := AlZ
  obs := fun s => obsR s.heap.objs.size fz fn s.heap.get?
  val := fun _ => valZ fn
  says := fun _ => HoldsZ fz fn
  of := fun _ _ e => holdsR_of e
  keeps := fun _ _ _ p => p.stay
theorem obsQ_eq {fz : List Fz} {fn : List DefZ} (s : PySem.W.SharedT) : obsR s.n fz fn (HandSHeadRun.getT s) = (hookQ fz fn).obs s.abs := by
  show _ = obsR s.abs.heap.objs.size fz fn s.abs.heap.get?
  rw [show s.abs.heap.objs.size = s.n from PySem.W.absHeap_size s.tree s.n s.life, show HandSHeadRun.getT s = s.abs.heap.get? from funext fun a => HandSHeadRun.getT_eq s a]
/-- no look -/
def hook0 : PySem.W.Hook where
  α := Unit
  obs := fun _ => ()
  val := fun _ => ()
  says := fun _ _ => True
  of := fun _ _ _ => trivial
  keeps := fun _ _ _ _ _ => trivial
def obQ1 (fz : List Fz) (s : PySem.W.SharedT) : Bool := (fz.all fun f => f.ok (frR s.n (HandSHeadRun.getT s))) && emptB (HandSHeadRun.getT s) (frR s.n (HandSHeadRun.getT s))
def obQ2 (fn : List DefZ) (s : PySem.W.SharedT) : AlZ := (fn.all fun d => d.ok (frR s.n (HandSHeadRun.getT s)), fn.map fun d => fnZ (frR s.n (HandSHeadRun.getT s)) (d.ad.at (frR s.n (HandSHeadRun.getT s))))
theorem obQ_of {fz : List Fz} {fn : List DefZ} {s : PySem.W.SharedT} (h1 : obQ1 fz s = true) (h2 : obQ2 fn s = valZ fn) : obsR s.n fz fn (HandSHeadRun.getT s) = valZ fn := by
  have a := congrArg Prod.fst h2
  have b := congrArg Prod.snd h2
  refine Prod.ext ?_ b
  have a : (fn.all fun d => d.ok (frR s.n (HandSHeadRun.getT s))) = true := a
  obtain ⟨a1, a2⟩ := He.ba (show ((fz.all fun f => f.ok (frR s.n (HandSHeadRun.getT s))) && emptB (HandSHeadRun.getT s) (frR s.n (HandSHeadRun.getT s))) = true from h1)
  show (((fz.all fun f => f.ok (frR s.n (HandSHeadRun.getT s))) && fn.all fun d => d.ok (frR s.n (HandSHeadRun.getT s))) && emptB (HandSHeadRun.getT s) (frR s.n (HandSHeadRun.getT s))) = true
  rw [a, a1, a2]
  rfl
theorem run3 {σ β : Type} {o : Option σ} {A : σ → Bool} {B : σ → β} {C1 : σ → Bool} {C2 C : σ → AlZ} {b : β} {v : AlZ} (hC : ∀ s, C1 s = true → C2 s = v → C s = v)
    (h1 : o.map (fun s => (A s, B s, ())) = some (true, b, ())) (h2 : o.map C1 = some true) (h3 : o.map C2 = some v) : o.map (fun s => (A s, B s, C s)) = some (true, b, v) := by
  cases o with
  | none => cases h2
  | some s =>
    have e1 : (A s, B s, ()) = (true, b, ()) := Option.some.inj h1
    have e2 : C1 s = true := Option.some.inj h2
    have e3 : C2 s = v := Option.some.inj h3
    show some (A s, B s, C s) = some (true, b, v)
    rw [hC s e2 e3, show A s = true from congrArg Prod.fst e1, show B s = b from congrArg (fun z => z.2.1) e1]
end Dz
namespace Dz
open PySem PySem.Spec PyProof.Rows L2
def codO (q : Str) : Obj := { cls := .none, data := .fields #[.none, .str q 0] }
def allO (n : Nat) (o : Obj) : Heap := { objs := (List.replicate n o).toArray }
theorem allO_get {n : Nat} {q : Str} {a : Addr} : (allO n (codO q)).get? a = if a < n then some (codO q) else none := by
  unfold allO Heap.get? codO
  by_cases h : a < n <;> simp [h, List.getElem?_replicate]
/-- what stands under a key -/
def valN : List (D × D) → NestedKey → Option D
  | [], _ => none
  | p :: r, k => if nkOf p.1 = some k then some p.2 else valN r k
/-- a tuple as a key -/
def keyT (x : D) : Option NestedKey := match x with
  | .tup ds => match nkOf (.tup ds) with
    | some k => if k.depth ≤ 8 then some k else none
    | none => none
  | _ => none
end Dz
namespace Dz
open PySem PySem.Spec PyProof.Rows L2
def hasE (es : List Ent) (k : NestedKey) : Bool := es.any fun e => decide (e.1 = k)
def putE (es : List Ent) (k : NestedKey) (a : Addr) (v : V) : List Ent := if hasE es k = true then es.map fun e => if e.1 = k then (e.1, e.2.1, v) else e else es ++ [(k, a, v)]
end Dz
namespace Dz
open PySem PySem.Spec PyProof.Rows L2
end Dz
namespace Dz
open PySem PySem.Spec PyProof.Rows L2
def putN (kvs : List (D × D)) (kd d : D) : List (D × D) := if (valN kvs <$> nkOf kd).join.isSome = true then kvs.map (fun p => if nkOf p.1 = nkOf kd then (p.1, d) else p) else kvs ++ [(kd, d)]
theorem valN_cons (x d : D) (r : List (D × D)) (k : NestedKey) : valN ((x, d) :: r) k = if nkOf x = some k then some d else valN r k := rfl
section
variable {K : KW} {F : Hp} {kd d : D} {ka : Addr} {v : V} {k : NestedKey}
theorem RepN.has : ∀ {kvs : List (D × D)} {es : List Ent}, RepN K F kvs es → (valN kvs k).isSome = hasE es k
  | _, _, .nil => rfl
  | _, _, .cons (nk := nk) hk hl rk rv rs => by
    have ih := rs.has
    unfold hasE at ih ⊢
    rw [List.any_cons, ← ih, valN_cons, hk]
    by_cases e : nk = k
    · simp [e]
    · rw [if_neg (fun z => e (Option.some.inj z)), decide_eq_false e, Bool.false_or]
theorem RepN.turn (hk : nkOf kd = some k) (q : Rep K F d v) : ∀ {kvs : List (D × D)} {es : List Ent}, RepN K F kvs es →
    RepN K F (kvs.map fun p => if nkOf p.1 = nkOf kd then (p.1, d) else p) (es.map fun e => if e.1 = k then (e.1, e.2.1, v) else e)
  | _, _, .nil => .nil
  | _, _, .cons (k := x) (nk := nk) h1 h2 h3 h4 rs => by
    rw [List.map_cons, List.map_cons]
    by_cases e : nk = k
    · rw [if_pos (show nkOf x = nkOf kd by rw [h1, hk, e]), if_pos e]
      exact .cons h1 h2 h3 q (rs.turn hk q)
    · rw [if_neg (show ¬ nkOf x = nkOf kd from fun z => e (Option.some.inj ((h1.symm.trans z).trans hk))), if_neg e]
      exact .cons h1 h2 h3 h4 (rs.turn hk q)
theorem RepN.app (hk : nkOf kd = some k) (hl : k.depth ≤ 8) (rk : Rep K F kd (.ref ka)) (q : Rep K F d v) : ∀ {kvs : List (D × D)} {es : List Ent}, RepN K F kvs es → RepN K F (kvs ++ [(kd, d)]) (es ++ [(k, ka, v)])
  | _, _, .nil => .cons hk hl rk q .nil
  | _, _, .cons h1 h2 h3 h4 rs => .cons h1 h2 h3 h4 (rs.app hk hl rk q)
theorem RepN.put {kvs : List (D × D)} {es : List Ent} (r : RepN K F kvs es) (hk : nkOf kd = some k) (hl : k.depth ≤ 8) (rk : Rep K F kd (.ref ka)) (q : Rep K F d v) : RepN K F (putN kvs kd d) (putE es k ka v) := by
  unfold putN putE
  rw [hk]
  show RepN K F (if (valN kvs k).isSome = true then _ else _) _
  rw [r.has]
  split
  · rw [← hk]; exact r.turn hk q
  · exact r.app hk hl rk q
theorem RepN.length : ∀ {kvs : List (D × D)} {es : List Ent}, RepN K F kvs es → kvs.length = es.length
  | _, _, .nil => rfl
  | _, _, .cons _ _ _ _ r => congrArg (· + 1) r.length
end
/-- the key of an entry: a tuple -/
def asT (x : Vl) : M D := match x with
  | .d y => opt (keyT y) fun _ => pur y
  | _ => stuck
def dcLN (t : Tgt) (p : Env → M Bool) (f g : Env → M Vl) (ρ : Env) : List (D × D) → List D → M (List (D × D))
  | acc, [] => pur acc
  | acc, d :: ds => bnd (gSet t d ρ) fun ρ1 => bnd (p ρ1) fun b => match b with
    | true => bnd (f ρ1) fun x => bnd (g ρ1) fun y => bnd (asT x) fun k => bnd (asD y) fun v => dcLN t p f g ρ (putN acc k v) ds
    | false => dcLN t p f g ρ acc ds
/-- what is still to come -/
def RestN (K : KW) (G : Hp) (Q : VK) (F : Hp) (m : List Addr) (r : R (List (D × D))) : Prop := match r with
  | .ok rs S' => ∀ (F' : Hp) (m' : List Addr) (H' : Hp) (q : Addr) (es : List Ent), Ext F F' m m' → Wd K F' m' (upd G q (dNo K.w q es)) S' H' → G q = none → RepN K F' rs es → Q (.ref q) H'
  | _ => False
section
variable {K : KW} {G : Hp} {Q : VK} {F F1 : Hp} {m m1 : List Addr} {t : Tgt} {p : Env → M Bool} {f g : Env → M Vl} {ρ ρ2 : Env} {S : Sto} {acc : List (D × D)} {d : D} {ds : List D}
theorem RestN.ext {r : R (List (D × D))} (e : Ext F F1 m m1) (h : RestN K G Q F m r) : RestN K G Q F1 m1 r := by
  cases r with
  | ok rs S' => exact fun F' m' H' q es e' => h F' m' H' q es (e.trans e')
  | err x S' => exact h
  | no => exact h
/-- one step of what is to come -/
theorem RestN.step (h : RestN K G Q F m (dcLN t p f g ρ acc (d :: ds) S)) (q : gSet t d ρ S = .ok ρ2 S) : match p ρ2 S with
    | .ok true S2 => (match f ρ2 S2 with
      | .ok (.d x) S3 => (match g ρ2 S3 with
        | .ok (.d y) S4 => ∃ k, keyT x = some k ∧ RestN K G Q F m (dcLN t p f g ρ (putN acc x y) ds S4)
        | _ => False)
      | .ok (.c _) S3 => False
      | _ => False)
    | .ok false S2 => RestN K G Q F m (dcLN t p f g ρ acc ds S2)
    | _ => False := by
  unfold dcLN bnd at h
  rw [q] at h
  simp only [] at h
  cases q2 : p ρ2 S with
  | err => rw [q2] at h; exact h
  | no => rw [q2] at h; exact h
  | ok b S2 =>
    rw [q2] at h
    cases b with
    | false => exact h
    | true =>
      simp only [] at h ⊢
      cases q3 : f ρ2 S2 with
      | err => rw [q3] at h; exact h
      | no => rw [q3] at h; exact h
      | ok x S3 =>
        rw [q3] at h
        cases x with
        | c n =>
          simp only [asT, stuck] at h
          cases q4 : g ρ2 S3 with
          | err => rw [q4] at h; exact h
          | no => rw [q4] at h; exact h
          | ok y S4 => rw [q4] at h; exact h
        | d x =>
          simp only [asT] at h ⊢
          cases q4 : g ρ2 S3 with
          | err => rw [q4] at h; exact h
          | no => rw [q4] at h; exact h
          | ok y S4 =>
            rw [q4] at h
            simp only [] at h ⊢
            cases q5 : keyT x with
            | none => rw [q5] at h; exact (show False from h).elim
            | some k =>
              rw [q5] at h
              cases y with
              | c n => exact h
              | d y => exact ⟨k, rfl, h⟩
end
end Dz
namespace Dz
open PySem PySem.Spec PyProof.Rows L2
end Dz
namespace Dz
open PySem PySem.Spec PyProof.Rows L2
end Dz
namespace Dz
open PySem PySem.Spec PyProof.Rows L2
theorem ext_nt {p : Addr} {φ : Heap → Prop} (h : ∀ q, ¬ φ (allO (p + 1) (codO q))) : NT p (.ext φ) := by
  refine ⟨fun ps => HO.noConfusion, fun q e => ?_⟩
  unfold LamX.CodeO at e
  injection e with e
  have y : (allO (p + 1) (codO q)).get? p = some (codO q) := by rw [allO_get, if_pos (Nat.lt_succ_self p)]
  exact h q ((congrFun e _).mpr ⟨_, _, _, y, rfl, rfl⟩)
theorem allO_cod {n : Nat} {q : Str} {a : Addr} {o : Obj} (h : (allO n (codO q)).get? a = some o) : o = codO q := by
  rw [allO_get] at h
  split at h
  · exact (Option.some.inj h).symm
  · cases h
theorem exO_nt {p a C : Addr} : NT p (ExO (.ref C) a) := ext_nt fun q ⟨o, vs, h, z, _⟩ => by
  rw [allO_cod h] at z
  have := z.1
  cases this
theorem exo_nt {p a C : Addr} {d : Option Addr} : NT p (exo a C d) := ext_nt fun q ⟨t, h⟩ => by
  have := allO_cod h
  cases this
theorem exd_nt {p d : Addr} {fs : List (Str × V)} : NT p (exd d fs) := ext_nt fun q ⟨mA, ⟨o, es, ep, h, hd, _⟩, _⟩ => by
  rw [allO_cod h] at hd
  cases hd
theorem exo_is {h : Heap} {a C : Addr} {d : Option Addr} : (∃ t1 : Addr, h.get? a = some ({ cls := .ref C, dict := d, data := .fields #[.ref t1, .none, .none, .none, .bool false, .none] } : Obj)) → IsExn h a C d := fun ⟨_, e⟩ => ⟨_, _, e, rfl, rfl, rfl⟩
/-- an error of the class c with nothing to read -/
def exnV (c : Str) (_ : Vl) : M Vl := pur (.d (.exn c []))
def eExn (c : Str) (f : Env → M Vl) : Env → M Vl := fun ρ => bnd (f ρ) (exnV c)
/-- .. that keeps its argument as f -/
def exkV (c f : Str) (x : Vl) : M Vl := match x with
  | .d y => pur (.d (.exn c [(f, y)]))
  | _ => stuck
def eExk (c f : Str) (g : Env → M Vl) : Env → M Vl := fun ρ => bnd (g ρ) (exkV c f)
section
variable {X : Cx} {Er : ErT} {c f : Str} {e : Expr} {g : Env → M Vl} {p pos : Pos}
theorem me_exn {bmB : List Value} {B newId initId : String} (F0 : ExcBaseFacts B newId initId bmB) (q : PySem.W.excIn X.K (He.ga X.kw c) bmB newId = true) (gC : X.mg c = some (.ref (He.ga X.kw c))) (kC : PySem.W.keepIn X.K (.ref (He.ga X.kw c)) = true) (hg : Gl X c)
    (he : ME X Er e g) (hs : starEach [e] X.env = (false, eval e X.env) :: starEach [] X.env := by rfl) (hdb : (c == ("__debug__" : Str)) = false := by decide) : ME X Er (.Call (.Name c p) [e] [] pos) (eExn c g) :=
  PE.imp (pe_exc1 F0 q gC kC hg he hs hdb) fun σ H Q ⟨F, m, G, S, ρ, w, r, z⟩ => by
    refine rd_mono (rd_bnd (A := rV X.kw) w r z) fun y H1 ⟨F1, m1, S1, a1, e1, w1, r1, ra, z1⟩ a hn => ?_
    have w2 := w1.push hn (ExO (.ref (He.ga X.kw c)) a) exO_nt
    have hF := w2.gF a _ upd_same
    exact z1 _ m1 _ _ (Ext.lay hF) (w2.freeze (w1.gfresh hn)) (.exn upd_same fun h ⟨o, vs, h1, h2, h3, _⟩ => ⟨o, vs, h1, h2.1, h2.2, h3⟩)
end
section
variable {X : Cx} {CX : CXT} {C fI : Addr} {k : Nat} {B newId initId : String} {mro : List Value} {c f : Str} {e : Expr} {te : TE} {p pos : Pos}
/-- the new error, tracked -/
theorem pe_keepV (T : KeepC X.kw C B newId initId mro) (ini : PySem.W.findIn X.kw (.ref C) "__init__" = some (some (.ref fI))) (isF : PySem.W.typeIn X.kw (.ref fI) = some (.type "function")) (F : FnG X.prog X.w X.kw X.mg X.base CX k 2 fI (spKeep C f)) (hr : Rm (k + 1) X.A)
    (hx : Passes CX X fun _ _ _ => False) (hg : Gl X c) (hm : X.mg c = some (.ref C)) (he : PE X e te) (hdb : (c == ("__debug__" : Str)) = false := by decide) (h1 : Args1 X e [] := by rfl) (ns : NoStar X [] pos := by rfl) :
    PE X (.Call (.Name c p) [e] [] pos) (fun σ H Q => te σ H fun y H1 => ∀ a d, H1 a = none → H1 d = none → d ≠ a → Q (.ref a) (withDict (upd H1 a (exo a C none)) a C d f y)) := pe_by fun {pins s σ H Q} I h => by
  have args := (pa_cons he pa_nil h1).run pos pins s σ H (fun vs H1 => match vs with
    | [y] => ∀ a d, H1 a = none → H1 d = none → d ≠ a → Q (.ref a) (withDict (upd H1 a (exo a C none)) a C d f y)
    | _ => False) I h
  refine wpAny_Call_Name_kw (ld_glob I hg hm (PySem.W.callWith_K (h₀ := X.base) I.ok.mod.kin T.keep (thn args fun us s1 z => ?_) h1 ns) hdb)
  obtain ⟨vs, H1, J, r, q⟩ := z
  refine ⟨J.kIn, ?_⟩
  obtain ⟨u, y, rfl, rfl, ry⟩ : ∃ u y, us = [u] ∧ vs = [y] ∧ RelV y u := by
    cases r with
    | nil => exact q.elim
    | cons ry r => cases r with
      | nil => exact ⟨_, _, rfl, rfl, ry⟩
      | cons _ _ => exact q.elim
  have q : ∀ a d, H1 a = none → H1 d = none → d ≠ a → Q (.ref a) (withDict (upd H1 a (exo a C none)) a C d f y) := q
  obtain ⟨hp, gs, dr, tk, os⟩ := s1
  obtain ⟨_, _, _, _, _, _, _, _, _, _, _, _, _, _, _, _, cls, alike⟩ := PySem.W.excInit_of J.kIn T.made
  have isNew : H1 (hp.objs.size + 1) = none := J.hok.fresh (Nat.le_succ hp.objs.size)
  obtain ⟨h2, eh⟩ : ∃ h2, h2 = (hp.push (PySem.W.kdv_tup [u])).push (PySem.HandSPX.excO C hp.objs.size) := ⟨_, rfl⟩
  have there : h2.get? (hp.objs.size + 1) = some (PySem.HandSPX.excO C hp.objs.size) := by
    have z := Heap.get?_push_size (hp.push (PySem.W.kdv_tup [u])) (o := PySem.HandSPX.excO C hp.objs.size) rfl
    rw [Heap.size_push] at z
    exact eh ▸ z
  have J2 : Inv X pins σ (upd H1 (hp.objs.size + 1) (exo (hp.objs.size + 1) C none)) ⟨h2, gs, dr, tk, os⟩ :=
    J.laid (t' := tk) (fun b o z => eh ▸ Heap.get?_push_of_some _ (Heap.get?_push_of_some _ z)) (Nat.le_succ _) (exo_ok there)
  have run := F _ X.stack _ _ [.ref (hp.objs.size + 1), u] [.ref (hp.objs.size + 1), y] (fun v H2 => v = .non ∧ Q (.ref (hp.objs.size + 1)) H2) (fun _ _ _ => False)
    (hr.make C [u] []) (J2.env0.make C [u] []) (.cons rfl (.cons ry .nil)) rfl ⟨_, _, rfl, upd_same, fun d nd ne => ⟨rfl, q _ d isNew (by rw [upd_ne ne] at nd; exact nd) ne⟩⟩
  refine wpAny_call (call_x T.call alike cls (PySem.W.looks_findIn J.kIn ini) (fun self => PySem.W.bind_fn J.kIn self isF) (show [u].length ≤ sizeLine by rw [sizeLine_eq]; exact Nat.le_of_ble_eq_true rfl) ?_)
  show codeAny _ _ _ _ ({ heap := (hp.push (PySem.W.kdv_tup [u])).push (PySem.HandSPX.excO C hp.objs.size), gens := gs, drawn := dr, toks := tk, os := os } : Shared)
  rw [← eh]
  refine codeAny_mono run fun o s2 c => ?_
  obtain ⟨w, rfl, v, H2, I3, rv, ev, z⟩ | ⟨x, rfl, z⟩ := seen (E' := X.xe) J2 (fun e s' y => hx pins σ _ _ e s' J2 y) c
  · rw [ev] at rv
    exact ⟨rv, .ref _, H2, I3, rfl, z⟩
  · exact z
end
section
variable {X : Cx} {Er : ErT} {CX : CXT} {fI : Addr} {k : Nat} {B newId initId : String} {mro : List Value} {c f : Str} {e : Expr} {g : Env → M Vl} {p pos : Pos}
theorem me_exk (T : KeepC X.kw (He.ga X.kw c) B newId initId mro) (ini : PySem.W.findIn X.kw (.ref (He.ga X.kw c)) "__init__" = some (some (.ref fI))) (isF : PySem.W.typeIn X.kw (.ref fI) = some (.type "function")) (F : FnG X.prog X.w X.kw X.mg X.base CX k 2 fI (spKeep (He.ga X.kw c) f)) (hr : Rm (k + 1) X.A)
    (hx : Passes CX X fun _ _ _ => False) (hg : Gl X c) (hm : X.mg c = some (.ref (He.ga X.kw c))) (he : ME X Er e g) (hdb : (c == ("__debug__" : Str)) = false := by decide) (h1 : Args1 X e [] := by rfl) (ns : NoStar X [] pos := by rfl) :
    ME X Er (.Call (.Name c p) [e] [] pos) (eExk c f g) := PE.imp (pe_keepV T ini isF F hr hx hg hm he hdb h1 ns) fun σ H Q ⟨F, m, G, S, ρ, w, r, z⟩ => by
  refine rd_mono (rd_bnd (A := rV X.kw) w r z) fun y H1 ⟨F1, m1, S1, a1, e1, w1, r1, ra, z1⟩ a d hna hnd hda => ?_
  cases a1 with
  | c n => exact z1.elim
  | d x =>
    have ra : Rep X.kw F1 x y := ra
    have e0 : withDict (upd H1 a (exo a (He.ga X.kw c) none)) a (He.ga X.kw c) d f y = upd (upd H1 d (exd d [(f, y)])) a (exo a (He.ga X.kw c) (some d)) := by
      unfold withDict
      funext b
      by_cases h1 : b = a
      · rw [h1, upd_same, upd_same]
      · rw [upd_ne h1, upd_ne h1]
        by_cases h2 : b = d
        · rw [h2, upd_same, upd_same]
        · rw [upd_ne h2, upd_ne h2, upd_ne h1]
    rw [e0]
    have w2 := w1.push hnd (exd d [(f, y)]) exd_nt
    have hF := w2.gF d _ upd_same
    have w3 := w2.freeze (w1.gfresh hnd)
    have hna2 : upd H1 d (exd d [(f, y)]) a = none := by rw [upd_ne (Ne.symm hda)]; exact hna
    have w4 := w3.push hna2 (exo a (He.ga X.kw c) (some d)) exo_nt
    have hF2 := w4.gF a _ upd_same
    have w5 := w4.freeze (w3.gfresh hna2)
    have x1 : Ext F1 (upd F1 d (exd d [(f, y)])) m1 m1 := Ext.lay hF
    have x2 := Ext.lay (m := m1) (o := exo a (He.ga X.kw c) (some d)) hF2
    refine z1 _ m1 _ _ (x1.trans x2) w5 (.exk upd_same (fun h z => exo_is z) ?_ (Rep.mono (x1.trans x2).fro ra))
    rw [upd_ne hda]
    exact upd_same
end
/-- what the class of an error must tell -/
structure ErrF (K : PySem.W.Frag) (C : Addr) : Prop where
  x : L2.XfC K C
  ca : PySem.W.findIn K (.ref C) "__class__" = some (some (.builtin "object.__class__"))
  cn : PySem.W.specialIn K (.builtin "object.__class__") "__get__" = some (some (.builtin "getset_descriptor.__get__"))
  ct : PySem.W.takesIn K (.builtin "object.__class__") = some true
  cm : PySem.W.mroIn K C (.type "object") = some true
def errB (c : Str) (K : PySem.W.Frag) : Bool := L2.xfB K (He.ga K c) && (decide (PySem.W.findIn K (.ref (He.ga K c)) "__class__" = some (some (.builtin "object.__class__"))) && (decide (PySem.W.specialIn K (.builtin "object.__class__") "__get__" = some (some (.builtin "getset_descriptor.__get__"))) &&
  (decide (PySem.W.takesIn K (.builtin "object.__class__") = some true) && decide (PySem.W.mroIn K (He.ga K c) (.type "object") = some true))))
theorem err_ok {K : PySem.W.Frag} {c : Str} (h : errB c K = true) : ErrF K (He.ga K c) := by
  obtain ⟨h1, h⟩ := He.ba h
  obtain ⟨h2, h⟩ := He.ba h
  obtain ⟨h3, h⟩ := He.ba h
  obtain ⟨h4, h5⟩ := He.ba h
  exact ⟨L2.xfB_ok h1, of_decide_eq_true h2, of_decide_eq_true h3, of_decide_eq_true h4, of_decide_eq_true h5⟩
def errsB (cs : List Str) (K : PySem.W.Frag) : Bool := cs.all fun c => errB c K
theorem errs_ok {K : PySem.W.Frag} {cs : List Str} (h : errsB cs K = true) : ∀ c ∈ cs, ErrF K (He.ga K c) := fun c hc => err_ok (List.all_eq_true.mp h c hc)
def tabEB (tab : Tab) (K : PySem.W.Frag) : Bool := tab.all fun p => decide (PySem.W.kitOne K (p.1.val K) (p.2.1.val K) = some p.2.2)
theorem tabE_ok {K : PySem.W.Frag} {tab : Tab} (h : tabEB tab K = true) : TabOk K tab := fun p hp => of_decide_eq_true (List.all_eq_true.mp h p hp)
def bIsE (cs : List Str) (tab : Tab) (xs : List Vl) : M Vl := match xs with
  | [.d (.exn c _), .d y] => if c ∈ cs then opt (clT y) fun u => opt (tabAt tab (.ow c) u) fun b => pur (.d (.bl b)) else stuck
  | _ => stuck
/-- where an error stands in the heap -/
theorem inst_exn {K : KW} {F H : Hp} {h : Heap} {P : Program} {w : World} (ok : HOk P w H h) (sm : Same F H) {c : Str} {fs : List (Str × D)} {v : V} (r : Rep K F (.exn c fs) v) : ∃ a o od, v = .ref a ∧ PySem.W.InstAt h a o (He.ga K c) od := by
  cases r with
  | exn ha hz =>
    obtain ⟨o, vs, h1, h2, h3, h4⟩ := hz h (ok _ _ (sm _ _ ha)).1
    refine ⟨_, o, none, rfl, h1, h2, by unfold PySem.W.notCls; rw [h4], ?_⟩
    rw [h3]
    trivial
  | exk ha hz hd rx =>
    obtain ⟨o, vs, h1, h2, h3, h4⟩ := hz h (ok _ _ (sm _ _ ha)).1
    obtain ⟨mA, hns, _⟩ := (show (∃ mA, h.Ns1 _ mA ∧ ∀ f, RelO (List.lookup f [(_, _)]) (mA f)) from (ok _ _ (sm _ _ hd)).1)
    obtain ⟨od, ho, hl⟩ := lookIn_ns hns
    refine ⟨_, o, some od, rfl, h1, h2, by unfold PySem.W.notCls; rw [h4], ?_⟩
    rw [h3]
    exact ho
section
variable {X : Cx} {Er : ErT} {cs : List Str} {tab : Tab} {e : Expr} {f : Str} {g : Env → M Vl} {pos : Pos}
theorem cm_isE (hc : ∀ c ∈ cs, ErrF X.kw (He.ga X.kw c)) (ok : TabOk X.kw tab) : CallM X Er (.builtin "isinstance") (bIsE cs tab) := fun pins s σ H vs us Q I rx ⟨F, m, G, S, xs, w, ra, z⟩ => by
  unfold bIsE at z
  split at z
  · rename_i c fs y
    by_cases hm : c ∈ cs
    · rw [if_pos hm] at z
      obtain ⟨u, hu, z⟩ := res_opt z
      obtain ⟨b, hb, z⟩ := res_opt z
      have eb := tabAt_ok ok hb
      cases ra with
      | cons r1 r2 =>
      cases r2 with
      | cons r2 r3 =>
      cases r3
      obtain ⟨a, o, od, rfl, J⟩ := inst_exn I.hok w.sub (show Rep X.kw F (.exn c fs) _ from r1)
      have T := hc c hm
      cases rx with
      | cons q1 rx =>
      cases rx with
      | cons q2 rx =>
      cases rx
      cases q1
      have hcl : (PySem.W.clsIn X.K (He.ga X.kw c)).isSome = true := by
        obtain ⟨cd, hcd, _⟩ := PySem.W.any_some T.x.hdC
        rw [hcd]; rfl
      have ecv : ∀ {v u' : _}, Rep X.kw F y v → RelV v u' → clT y = some u → u' = u.val X.K := fun {v u'} r q hu => by
        cases y with
        | ty n => cases hu; cases r; cases q; rfl
        | cls c => cases hu; cases r; cases q; rfl
        | _ => cases hu
      have ev := ecv r2 q2 hu
      subst ev
      exact PySem.W.kia_one (PySem.W.kitx_exc hcl T.x.ga T.x.gg T.x.exC T.ca T.cn T.ct T.cm) I.kIn J eb (fun z => nomatch z) fun tk => by
        have z2 := z F m H (.bl b) (Ext.refl _ _) w (.bl b)
        exact ⟨.bl b, H, I.kept (t' := tk) fun _ _ z => z, rfl, z2⟩
    · rw [if_neg hm] at z; exact z.elim
  · exact z.elim
def xfV (cs : List Str) (f : Str) (x : Vl) : M Vl := match x with
  | .d (.exn c [(f', y)]) => if c ∈ cs ∧ f' = f then pur (.d y) else stuck
  | _ => stuck
/-- e.f of an error -/
def eXf (cs : List Str) (f : Str) (g : Env → M Vl) : Env → M Vl := fun ρ => bnd (g ρ) (xfV cs f)
theorem me_xf (hc : ∀ c ∈ cs, L2.XfC X.kw (He.ga X.kw c) ∧ PySem.W.findIn X.kw (.ref (He.ga X.kw c)) f = some none) (he : ME X Er e g) (hb : attributeBase e f X.env (eval e X.env) = eval e X.env := by rfl) : ME X Er (.Attribute e f pos) (eXf cs f g) := pe_by fun {pins s σ H Q} I ⟨F, m, G, S, ρ, w, r, z⟩ => by
  refine attr_of hb (thn (he.run pins s σ H _ I (rd_bnd (A := rV X.kw) w r z)) fun u s1 ⟨v, H1, I1, rx, F1, m1, S1, a1, e1, w1, r1, ra, z1⟩ => ?_)
  unfold xfV at z1
  split at z1
  · rename_i c f' y
    by_cases hm : c ∈ cs ∧ f' = f
    · rw [if_pos hm] at z1
      obtain ⟨hm, rfl⟩ := hm
      obtain ⟨T, hno⟩ := hc c hm
      have sm := w1.sub
      cases (show Rep X.kw F1 (.exn c [(f', y)]) v from ra) with
      | exk ha hz hd rv =>
        rename_i a d vv φ
        obtain ⟨o, vs, h1, h2, h3, h4⟩ := hz s1.heap (I1.hok _ _ (sm _ _ ha)).1
        obtain ⟨mA, hns, hr⟩ := (show (∃ mA, s1.heap.Ns1 d mA ∧ ∀ g, RelO (List.lookup g [(f', vv)]) (mA g)) from (I1.hok _ _ (sm _ _ hd)).1)
        obtain ⟨od, ho, hl⟩ := lookIn_ns hns
        have J : PySem.W.InstAt s1.heap a o (He.ga X.kw c) (some od) := ⟨h1, h2, by unfold PySem.W.notCls; rw [h4], by rw [h3]; exact ho⟩
        have hlk : List.lookup f' [(f', vv)] = some vv := by simp [List.lookup]
        obtain ⟨u2, hu, ru⟩ := RelO.some_of (v := vv) (o := mA f') (by rw [← hlk]; exact hr f')
        obtain rfl : u = Value.ref a := rx
        exact HandSPX.exc_get I1.kIn J T.ga T.gg T.exC (PySem.W.findObj_own T.hdC hno rfl (by rw [hl, hu])) (handed_of ru) ⟨vv, H1, I1.tok _, ru, z1 F1 m1 H1 vv (Ext.refl _ _) w1 rv⟩
    · rw [if_neg hm] at z1; exact z1.elim
  · exact z1.elim
end
end Dz
namespace Dz
open PySem PySem.Spec PyProof.Rows L2
/-- what the own base is to its name -/
structure BaseO (K : PySem.W.Frag) (b initId : String) : Prop where
  own : PySem.W.specialIn K (.ref (He.ga K b)) "__getattribute__" = some (some (.builtin "type.__getattribute__"))
  reads : PySem.W.readsIn K (He.ga K b) (.type "type") = true
  meth : PySem.W.findCls K (.ref (He.ga K b)) (.type "type") "__init__" = some (.val (.builtin initId))
def baseOB (b initId : String) (K : PySem.W.Frag) : Bool := decide (PySem.W.specialIn K (.ref (He.ga K b)) "__getattribute__" = some (some (.builtin "type.__getattribute__"))) && (PySem.W.readsIn K (He.ga K b) (.type "type") &&
  (match PySem.W.findCls K (.ref (He.ga K b)) (.type "type") "__init__" with
    | some (.val v) => decide (v = .builtin initId)
    | _ => false))
theorem baseO_ok {K : PySem.W.Frag} {b initId : String} (h : baseOB b initId K = true) : BaseO K b initId := by
  obtain ⟨h1, h⟩ := He.ba h
  obtain ⟨h2, h3⟩ := He.ba h
  refine ⟨of_decide_eq_true h1, h2, ?_⟩
  split at h3
  · rename_i v q
    rw [q, of_decide_eq_true h3]
  · cases h3
section
variable {X : Cx} {C : Addr} {B newId initId b : String} {mro : List Value} {self x f : Str} {p1 p2 p3 p4 p5 : Pos}
theorem pe_baseO {pl : Sem Bool} (T : KeepC X.kw C B newId initId mro) (b0 : BaseO X.kw b initId) (gl : Gl X b) (gb : X.mg b = some (.ref (He.ga X.kw b))) (hb : ((b : Str) == ("__debug__" : Str)) = false) (hh : PySem.W.handedIn (.builtin initId) = true) (h0 : X.N[0]? = some self) (h1 : X.N[1]? = some x) (v0 : Vis X.env.scope self) (v1 : Vis X.env.scope x)
    (d0 : (self == ("__debug__" : Str)) = false ∧ (self == ("__classdict__" : Str)) = false) (d1 : (x == ("__debug__" : Str)) = false ∧ (x == ("__classdict__" : Str)) = false)
    (sh : MethSh X (.Name b p1) "__init__" p2 [.Name self p3, .Name x p4] p5 pl := by rfl) (s0 : Args1 X (.Name self p3) [.Name x p4] := by rfl) (s1 : Args1 X (.Name x p4) [] := by rfl) (ns : NoStar X [.Name x p4] p5 := by rfl) :
    PE X (.Call (.Attribute (.Name b p1) "__init__" p2) [.Name self p3, .Name x p4] [] p5) (fun σ H Q => ∃ a y, Young C σ H a y ∧ Q .non H) := pe_by fun {pins s σ H Q} I h => by
  obtain ⟨a, y, ⟨e0, e1, young⟩, q⟩ := h
  have args := pa_cons (pe_var (pos := p3) h0 v0 d0.1 d0.2) (pa_cons (pe_var (pos := p4) h1 v1 d1.1 d1.2) pa_nil s1) s0
  refine PySem.W.methodCall_KW (ld_glob I gl gb (PySem.W.method_cls I.kIn b0.own (PySem.W.cls_value I.kIn b0.reads b0.meth hh ?_)) hb) sh
  refine PyProof.Rows.callWith_method1 (thn (args.run p5 pins _ σ H (fun vs H1 => vs = [.ref a, y] ∧ H1 = H) (I.tok _) ⟨_, e0, _, e1, rfl, rfl⟩) fun us s1 ⟨vs, H1, J, r, ev, eH⟩ => ?_) s0 ns
  subst ev; subst eH
  cases r with
  | cons ra ry =>
    cases (show _ = Value.ref a from ra)
    exact base_again T J young (by rw [← Paired.length ry, sizeLine_eq]; exact Nat.le_of_ble_eq_true rfl) fun s2 J2 => ⟨.non, _, J2, rfl, q⟩
end
section
variable {P : Program} {w : World} {K : Frag} {mg : Str → Option Value} {base : Heap} {CX : CXT} {k : Nat} {fI C : Addr} {B newId initId b : String} {mro : List Value} {name qual self x f : Str} {params : Arguments} {scope : Scope} {fd : FuncData} {p1 p2 p3 p4 p5 p6 p7 p8 p9 p10 : Pos}
theorem fng_keepO (D : FunD K name qual params (initBody b self x f p1 p2 p3 p4 p5 p6 p7 p8 p9 p10) scope [] [] fI fd) (Bd : Binds K fd [self, x] []) (S : FnScope [self, x] [self, x] scope) (T : KeepC K C B newId initId mro) (free : PySem.W.takerIn K C f = some none)
    (sh : ∀ X : Cx, ∃ pl : Sem Bool, MethSh X (.Name b p1) "__init__" p2 [.Name self p3, .Name x p4] p5 pl ∧ Args1 X (.Name self p3) [.Name x p4] ∧ Args1 X (.Name x p4) [] ∧ NoStar X [.Name x p4] p5 ∧ swapsWith (.Call (.Attribute (.Name b p1) "__init__" p2) [.Name self p3, .Name x p4] [] p5) none p6.line X.env = pure false ∧ swapsWith (.Name x p9) (some (.Attribute (.Name self p7) f p8)) p10.line X.env = pure false)
    (gl : scope.names.lookup (b : Str) = some .globalImplicit) (gb : mg b = some (.ref (He.ga K b))) (bo : BaseO K b initId) (hb : ((b : Str) == ("__debug__" : Str)) = false) (hh : PySem.W.handedIn (.builtin initId) = true) (v0 : scope.names.lookup self = some .local) (v1 : scope.names.lookup x = some .local)
    (d0 : (self == ("__debug__" : Str)) = false ∧ (self == ("__classdict__" : Str)) = false := by decide) (d1 : (x == ("__debug__" : Str)) = false ∧ (x == ("__classdict__" : Str)) = false := by decide) :
    FnG P w K mg base CX (k + 1) 2 fI (spKeep C f) := by
  refine fng_of D Bd S rfl fun cdv A outer s H vs Q E _ _ sp => ?_
  obtain ⟨a, y, rfl, young, q⟩ := sp
  let X : Cx := cxOf CX P w K mg base [self, x] qual scope fI cdv A outer s H E
  obtain ⟨pl, z1, z2, z3, z4, z5, z6⟩ := sh X
  have m1 := ps_expr (pe_baseO (X := X) T bo gl gb hb hh rfl rfl (.inl v0) (.inl v1) d0 d1 z1 z2 z3 z4) z5
  have m2 := ps_keep (X := X) T free rfl rfl (.inl v0) (.inl v1) d0 d1 z6
  exact ⟨_, pss_cons m1 (pss_one m2), a, y, ⟨rfl, rfl, young⟩, a, y, ⟨rfl, rfl, young⟩, q⟩
end
section
variable {X : Cx} {Er : ErT} {c f : Str} {B newId initId : String} {mro : List Value} {k : Nat} {e : Expr} {g : Env → M Vl} {p pos : Pos}
/-- C(x), by what the head tells -/
theorem me_exkX (T : KeepX X.kw c f B newId initId mro) (F : FnG X.prog X.w X.kw X.mg X.base (CX X.prog X.w) k 2 (He.ma X.kw (He.ga X.kw c) "__init__") (spKeep (He.ga X.kw c) f)) (hr : Rm (k + 1) X.A) (gC : X.mg c = some (.ref (He.ga X.kw c))) (hg : Gl X c) (he : ME X Er e g)
    (hdb : (c == ("__debug__" : Str)) = false := by decide) (h1 : Args1 X e [] := by rfl) (ns : NoStar X [] pos := by rfl) : ME X Er (.Call (.Name c p) [e] [] pos) (eExk c f g) := me_exk T.cls T.ini T.isF F hr erOk0.pass hg gC he hdb h1 ns
theorem me_exnX (T : MsgX X.kw c) (gC : X.mg c = some (.ref (He.ga X.kw c))) (hg : Gl X c) (he : ME X Er e g) (hs : starEach [e] X.env = (false, eval e X.env) :: starEach [] X.env := by rfl) (hdb : (c == ("__debug__" : Str)) = false := by decide) :
    ME X Er (.Call (.Name c p) [e] [] pos) (eExn c g) := me_exn F.excBase_ValueError T.q gC T.kp hg he hs hdb
end
section
variable {f g : Env → M Vl} {ρ : Env} {S : Sto} {Q : Vl → Sto → Prop} {c n : Str} {cs : List Str} {x : D} {fs : List (Str × D)}
theorem w_exk : wp (eExk c n f ρ) S Q ↔ wp (f ρ) S fun y S => wp (exkV c n y) S Q := wp_bnd
theorem w_exkV : wp (exkV c n (.d x)) S Q ↔ Q (.d (.exn c [(n, x)])) S := wp_pur
theorem w_xf : wp (eXf cs n f ρ) S Q ↔ wp (f ρ) S fun y S => wp (xfV cs n y) S Q := wp_bnd
theorem w_xfV (h : c ∈ cs) : wp (xfV cs n (.d (.exn c [(n, x)]))) S Q ↔ Q (.d x) S := by
  show wp (if c ∈ cs ∧ n = n then pur (.d x) else stuck) S Q ↔ _
  rw [if_pos ⟨h, rfl⟩]
  exact wp_pur
end
end Dz
namespace K00
open PySem PySem.Spec PyProof.Rows L2 Dz
def topS (i : Nat) : Stmt := PySem.Challenge.pw_deepenough_k00_errors_and_what_they_keep.main.body.getD i (.Pass ⟨0, 0, 0, 0⟩)
abbrev excL : List Str := ["DepthError", "InvalidProgram", "InvalidRun", "InvalidLimit", "InvalidLimits", "InvalidModes", "InvalidRow", "InvalidSign", "InvalidOperation", "InvalidCommand", "ParseError", "UnknownName", "UnknownSite", "InvalidNumber", "NothingToUndo", "Refused", "TooMany"]
abbrev tabE : Tab := [(.ow "DepthError", .bt "ArithmeticError", false), (.ow "DepthError", .ow "DepthError", true), (.ow "DepthError", .bt "IndexError", false), (.ow "DepthError", .ow "InvalidCommand", false), (.ow "DepthError", .ow "InvalidLimit", false), (.ow "DepthError", .ow "InvalidLimits", false), (.ow "DepthError", .ow "InvalidModes", false), (.ow "DepthError", .ow "InvalidNumber", false), (.ow "DepthError", .ow "InvalidOperation", false), (.ow "DepthError", .ow "InvalidProgram", false), (.ow "DepthError", .ow "InvalidRow", false), (.ow "DepthError", .ow "InvalidRun", false), (.ow "DepthError", .ow "InvalidSign", false), (.ow "DepthError", .bt "KeyError", false), (.ow "DepthError", .bt "LookupError", false), (.ow "DepthError", .ow "NothingToUndo", false), (.ow "DepthError", .bt "OverflowError", false), (.ow "DepthError", .ow "ParseError", false), (.ow "DepthError", .ow "Refused", false), (.ow "DepthError", .ow "TooMany", false), (.ow "DepthError", .ow "UnknownName", false), (.ow "DepthError", .ow "UnknownSite", false), (.ow "DepthError", .bt "ValueError", true), (.ow "InvalidProgram", .bt "ArithmeticError", false), (.ow "InvalidProgram", .ow "DepthError", true), (.ow "InvalidProgram", .bt "IndexError", false), (.ow "InvalidProgram", .ow "InvalidCommand", false), (.ow "InvalidProgram", .ow "InvalidLimit", false), (.ow "InvalidProgram", .ow "InvalidLimits", false), (.ow "InvalidProgram", .ow "InvalidModes", false), (.ow "InvalidProgram", .ow "InvalidNumber", false), (.ow "InvalidProgram", .ow "InvalidOperation", false), (.ow "InvalidProgram", .ow "InvalidProgram", true), (.ow "InvalidProgram", .ow "InvalidRow", false), (.ow "InvalidProgram", .ow "InvalidRun", false), (.ow "InvalidProgram", .ow "InvalidSign", false), (.ow "InvalidProgram", .bt "KeyError", false), (.ow "InvalidProgram", .bt "LookupError", false), (.ow "InvalidProgram", .ow "NothingToUndo", false), (.ow "InvalidProgram", .bt "OverflowError", false), (.ow "InvalidProgram", .ow "ParseError", false), (.ow "InvalidProgram", .ow "Refused", false), (.ow "InvalidProgram", .ow "TooMany", false), (.ow "InvalidProgram", .ow "UnknownName", false), (.ow "InvalidProgram", .ow "UnknownSite", false), (.ow "InvalidProgram", .bt "ValueError", true), (.ow "InvalidRun", .bt "ArithmeticError", false), (.ow "InvalidRun", .ow "DepthError", true), (.ow "InvalidRun", .bt "IndexError", false), (.ow "InvalidRun", .ow "InvalidCommand", false), (.ow "InvalidRun", .ow "InvalidLimit", false), (.ow "InvalidRun", .ow "InvalidLimits", false), (.ow "InvalidRun", .ow "InvalidModes", false), (.ow "InvalidRun", .ow "InvalidNumber", false), (.ow "InvalidRun", .ow "InvalidOperation", false), (.ow "InvalidRun", .ow "InvalidProgram", false), (.ow "InvalidRun", .ow "InvalidRow", false), (.ow "InvalidRun", .ow "InvalidRun", true), (.ow "InvalidRun", .ow "InvalidSign", false), (.ow "InvalidRun", .bt "KeyError", false), (.ow "InvalidRun", .bt "LookupError", false), (.ow "InvalidRun", .ow "NothingToUndo", false), (.ow "InvalidRun", .bt "OverflowError", false), (.ow "InvalidRun", .ow "ParseError", false), (.ow "InvalidRun", .ow "Refused", false), (.ow "InvalidRun", .ow "TooMany", false), (.ow "InvalidRun", .ow "UnknownName", false), (.ow "InvalidRun", .ow "UnknownSite", false), (.ow "InvalidRun", .bt "ValueError", true), (.ow "InvalidLimit", .bt "ArithmeticError", false), (.ow "InvalidLimit", .ow "DepthError", true), (.ow "InvalidLimit", .bt "IndexError", false), (.ow "InvalidLimit", .ow "InvalidCommand", false), (.ow "InvalidLimit", .ow "InvalidLimit", true), (.ow "InvalidLimit", .ow "InvalidLimits", false), (.ow "InvalidLimit", .ow "InvalidModes", false), (.ow "InvalidLimit", .ow "InvalidNumber", false), (.ow "InvalidLimit", .ow "InvalidOperation", false), (.ow "InvalidLimit", .ow "InvalidProgram", false), (.ow "InvalidLimit", .ow "InvalidRow", false), (.ow "InvalidLimit", .ow "InvalidRun", false), (.ow "InvalidLimit", .ow "InvalidSign", false), (.ow "InvalidLimit", .bt "KeyError", false), (.ow "InvalidLimit", .bt "LookupError", false), (.ow "InvalidLimit", .ow "NothingToUndo", false), (.ow "InvalidLimit", .bt "OverflowError", false), (.ow "InvalidLimit", .ow "ParseError", false), (.ow "InvalidLimit", .ow "Refused", false), (.ow "InvalidLimit", .ow "TooMany", false), (.ow "InvalidLimit", .ow "UnknownName", false), (.ow "InvalidLimit", .ow "UnknownSite", false), (.ow "InvalidLimit", .bt "ValueError", true), (.ow "InvalidLimits", .bt "ArithmeticError", false), (.ow "InvalidLimits", .ow "DepthError", true), (.ow "InvalidLimits", .bt "IndexError", false), (.ow "InvalidLimits", .ow "InvalidCommand", false), (.ow "InvalidLimits", .ow "InvalidLimit", false), (.ow "InvalidLimits", .ow "InvalidLimits", true), (.ow "InvalidLimits", .ow "InvalidModes", false), (.ow "InvalidLimits", .ow "InvalidNumber", false), (.ow "InvalidLimits", .ow "InvalidOperation", false), (.ow "InvalidLimits", .ow "InvalidProgram", false), (.ow "InvalidLimits", .ow "InvalidRow", false), (.ow "InvalidLimits", .ow "InvalidRun", false), (.ow "InvalidLimits", .ow "InvalidSign", false), (.ow "InvalidLimits", .bt "KeyError", false), (.ow "InvalidLimits", .bt "LookupError", false), (.ow "InvalidLimits", .ow "NothingToUndo", false), (.ow "InvalidLimits", .bt "OverflowError", false), (.ow "InvalidLimits", .ow "ParseError", false), (.ow "InvalidLimits", .ow "Refused", false), (.ow "InvalidLimits", .ow "TooMany", false), (.ow "InvalidLimits", .ow "UnknownName", false), (.ow "InvalidLimits", .ow "UnknownSite", false), (.ow "InvalidLimits", .bt "ValueError", true), (.ow "InvalidModes", .bt "ArithmeticError", false), (.ow "InvalidModes", .ow "DepthError", true), (.ow "InvalidModes", .bt "IndexError", false), (.ow "InvalidModes", .ow "InvalidCommand", false), (.ow "InvalidModes", .ow "InvalidLimit", false), (.ow "InvalidModes", .ow "InvalidLimits", false), (.ow "InvalidModes", .ow "InvalidModes", true), (.ow "InvalidModes", .ow "InvalidNumber", false), (.ow "InvalidModes", .ow "InvalidOperation", false), (.ow "InvalidModes", .ow "InvalidProgram", false), (.ow "InvalidModes", .ow "InvalidRow", false), (.ow "InvalidModes", .ow "InvalidRun", false), (.ow "InvalidModes", .ow "InvalidSign", false), (.ow "InvalidModes", .bt "KeyError", false), (.ow "InvalidModes", .bt "LookupError", false), (.ow "InvalidModes", .ow "NothingToUndo", false), (.ow "InvalidModes", .bt "OverflowError", false), (.ow "InvalidModes", .ow "ParseError", false), (.ow "InvalidModes", .ow "Refused", false), (.ow "InvalidModes", .ow "TooMany", false), (.ow "InvalidModes", .ow "UnknownName", false), (.ow "InvalidModes", .ow "UnknownSite", false), (.ow "InvalidModes", .bt "ValueError", true), (.ow "InvalidRow", .bt "ArithmeticError", false), (.ow "InvalidRow", .ow "DepthError", true), (.ow "InvalidRow", .bt "IndexError", false), (.ow "InvalidRow", .ow "InvalidCommand", false), (.ow "InvalidRow", .ow "InvalidLimit", false), (.ow "InvalidRow", .ow "InvalidLimits", false), (.ow "InvalidRow", .ow "InvalidModes", false), (.ow "InvalidRow", .ow "InvalidNumber", false), (.ow "InvalidRow", .ow "InvalidOperation", false), (.ow "InvalidRow", .ow "InvalidProgram", false), (.ow "InvalidRow", .ow "InvalidRow", true), (.ow "InvalidRow", .ow "InvalidRun", false), (.ow "InvalidRow", .ow "InvalidSign", false), (.ow "InvalidRow", .bt "KeyError", false), (.ow "InvalidRow", .bt "LookupError", false), (.ow "InvalidRow", .ow "NothingToUndo", false), (.ow "InvalidRow", .bt "OverflowError", false), (.ow "InvalidRow", .ow "ParseError", false), (.ow "InvalidRow", .ow "Refused", false), (.ow "InvalidRow", .ow "TooMany", false), (.ow "InvalidRow", .ow "UnknownName", false), (.ow "InvalidRow", .ow "UnknownSite", false), (.ow "InvalidRow", .bt "ValueError", true), (.ow "InvalidSign", .bt "ArithmeticError", false), (.ow "InvalidSign", .ow "DepthError", true), (.ow "InvalidSign", .bt "IndexError", false), (.ow "InvalidSign", .ow "InvalidCommand", false), (.ow "InvalidSign", .ow "InvalidLimit", false), (.ow "InvalidSign", .ow "InvalidLimits", false), (.ow "InvalidSign", .ow "InvalidModes", false), (.ow "InvalidSign", .ow "InvalidNumber", false), (.ow "InvalidSign", .ow "InvalidOperation", false), (.ow "InvalidSign", .ow "InvalidProgram", false), (.ow "InvalidSign", .ow "InvalidRow", false), (.ow "InvalidSign", .ow "InvalidRun", false), (.ow "InvalidSign", .ow "InvalidSign", true), (.ow "InvalidSign", .bt "KeyError", false), (.ow "InvalidSign", .bt "LookupError", false), (.ow "InvalidSign", .ow "NothingToUndo", false), (.ow "InvalidSign", .bt "OverflowError", false), (.ow "InvalidSign", .ow "ParseError", false), (.ow "InvalidSign", .ow "Refused", false), (.ow "InvalidSign", .ow "TooMany", false), (.ow "InvalidSign", .ow "UnknownName", false), (.ow "InvalidSign", .ow "UnknownSite", false), (.ow "InvalidSign", .bt "ValueError", true), (.ow "InvalidOperation", .bt "ArithmeticError", false), (.ow "InvalidOperation", .ow "DepthError", true), (.ow "InvalidOperation", .bt "IndexError", false), (.ow "InvalidOperation", .ow "InvalidCommand", false), (.ow "InvalidOperation", .ow "InvalidLimit", false), (.ow "InvalidOperation", .ow "InvalidLimits", false), (.ow "InvalidOperation", .ow "InvalidModes", false), (.ow "InvalidOperation", .ow "InvalidNumber", false), (.ow "InvalidOperation", .ow "InvalidOperation", true), (.ow "InvalidOperation", .ow "InvalidProgram", false), (.ow "InvalidOperation", .ow "InvalidRow", false), (.ow "InvalidOperation", .ow "InvalidRun", false), (.ow "InvalidOperation", .ow "InvalidSign", false), (.ow "InvalidOperation", .bt "KeyError", false), (.ow "InvalidOperation", .bt "LookupError", false), (.ow "InvalidOperation", .ow "NothingToUndo", false), (.ow "InvalidOperation", .bt "OverflowError", false), (.ow "InvalidOperation", .ow "ParseError", false), (.ow "InvalidOperation", .ow "Refused", false), (.ow "InvalidOperation", .ow "TooMany", false), (.ow "InvalidOperation", .ow "UnknownName", false), (.ow "InvalidOperation", .ow "UnknownSite", false), (.ow "InvalidOperation", .bt "ValueError", true), (.ow "InvalidCommand", .bt "ArithmeticError", false), (.ow "InvalidCommand", .ow "DepthError", true), (.ow "InvalidCommand", .bt "IndexError", false), (.ow "InvalidCommand", .ow "InvalidCommand", true), (.ow "InvalidCommand", .ow "InvalidLimit", false), (.ow "InvalidCommand", .ow "InvalidLimits", false), (.ow "InvalidCommand", .ow "InvalidModes", false), (.ow "InvalidCommand", .ow "InvalidNumber", false), (.ow "InvalidCommand", .ow "InvalidOperation", false), (.ow "InvalidCommand", .ow "InvalidProgram", false), (.ow "InvalidCommand", .ow "InvalidRow", false), (.ow "InvalidCommand", .ow "InvalidRun", false), (.ow "InvalidCommand", .ow "InvalidSign", false), (.ow "InvalidCommand", .bt "KeyError", false), (.ow "InvalidCommand", .bt "LookupError", false), (.ow "InvalidCommand", .ow "NothingToUndo", false), (.ow "InvalidCommand", .bt "OverflowError", false), (.ow "InvalidCommand", .ow "ParseError", false), (.ow "InvalidCommand", .ow "Refused", false), (.ow "InvalidCommand", .ow "TooMany", false), (.ow "InvalidCommand", .ow "UnknownName", false), (.ow "InvalidCommand", .ow "UnknownSite", false), (.ow "InvalidCommand", .bt "ValueError", true), (.ow "ParseError", .bt "ArithmeticError", false), (.ow "ParseError", .ow "DepthError", true), (.ow "ParseError", .bt "IndexError", false), (.ow "ParseError", .ow "InvalidCommand", false), (.ow "ParseError", .ow "InvalidLimit", false), (.ow "ParseError", .ow "InvalidLimits", false), (.ow "ParseError", .ow "InvalidModes", false), (.ow "ParseError", .ow "InvalidNumber", false), (.ow "ParseError", .ow "InvalidOperation", false), (.ow "ParseError", .ow "InvalidProgram", false), (.ow "ParseError", .ow "InvalidRow", false), (.ow "ParseError", .ow "InvalidRun", false), (.ow "ParseError", .ow "InvalidSign", false), (.ow "ParseError", .bt "KeyError", false), (.ow "ParseError", .bt "LookupError", false), (.ow "ParseError", .ow "NothingToUndo", false), (.ow "ParseError", .bt "OverflowError", false), (.ow "ParseError", .ow "ParseError", true), (.ow "ParseError", .ow "Refused", false), (.ow "ParseError", .ow "TooMany", false), (.ow "ParseError", .ow "UnknownName", false), (.ow "ParseError", .ow "UnknownSite", false), (.ow "ParseError", .bt "ValueError", true), (.ow "UnknownName", .bt "ArithmeticError", false), (.ow "UnknownName", .ow "DepthError", false), (.ow "UnknownName", .bt "IndexError", false), (.ow "UnknownName", .ow "InvalidCommand", false), (.ow "UnknownName", .ow "InvalidLimit", false), (.ow "UnknownName", .ow "InvalidLimits", false), (.ow "UnknownName", .ow "InvalidModes", false), (.ow "UnknownName", .ow "InvalidNumber", false), (.ow "UnknownName", .ow "InvalidOperation", false), (.ow "UnknownName", .ow "InvalidProgram", false), (.ow "UnknownName", .ow "InvalidRow", false), (.ow "UnknownName", .ow "InvalidRun", false), (.ow "UnknownName", .ow "InvalidSign", false), (.ow "UnknownName", .bt "KeyError", true), (.ow "UnknownName", .bt "LookupError", true), (.ow "UnknownName", .ow "NothingToUndo", false), (.ow "UnknownName", .bt "OverflowError", false), (.ow "UnknownName", .ow "ParseError", false), (.ow "UnknownName", .ow "Refused", false), (.ow "UnknownName", .ow "TooMany", false), (.ow "UnknownName", .ow "UnknownName", true), (.ow "UnknownName", .ow "UnknownSite", false), (.ow "UnknownName", .bt "ValueError", false), (.ow "UnknownSite", .bt "ArithmeticError", false), (.ow "UnknownSite", .ow "DepthError", false), (.ow "UnknownSite", .bt "IndexError", false), (.ow "UnknownSite", .ow "InvalidCommand", false), (.ow "UnknownSite", .ow "InvalidLimit", false), (.ow "UnknownSite", .ow "InvalidLimits", false), (.ow "UnknownSite", .ow "InvalidModes", false), (.ow "UnknownSite", .ow "InvalidNumber", false), (.ow "UnknownSite", .ow "InvalidOperation", false), (.ow "UnknownSite", .ow "InvalidProgram", false), (.ow "UnknownSite", .ow "InvalidRow", false), (.ow "UnknownSite", .ow "InvalidRun", false), (.ow "UnknownSite", .ow "InvalidSign", false), (.ow "UnknownSite", .bt "KeyError", true), (.ow "UnknownSite", .bt "LookupError", true), (.ow "UnknownSite", .ow "NothingToUndo", false), (.ow "UnknownSite", .bt "OverflowError", false), (.ow "UnknownSite", .ow "ParseError", false), (.ow "UnknownSite", .ow "Refused", false), (.ow "UnknownSite", .ow "TooMany", false), (.ow "UnknownSite", .ow "UnknownName", false), (.ow "UnknownSite", .ow "UnknownSite", true), (.ow "UnknownSite", .bt "ValueError", false), (.ow "InvalidNumber", .bt "ArithmeticError", false), (.ow "InvalidNumber", .ow "DepthError", false), (.ow "InvalidNumber", .bt "IndexError", true), (.ow "InvalidNumber", .ow "InvalidCommand", false), (.ow "InvalidNumber", .ow "InvalidLimit", false), (.ow "InvalidNumber", .ow "InvalidLimits", false), (.ow "InvalidNumber", .ow "InvalidModes", false), (.ow "InvalidNumber", .ow "InvalidNumber", true), (.ow "InvalidNumber", .ow "InvalidOperation", false), (.ow "InvalidNumber", .ow "InvalidProgram", false), (.ow "InvalidNumber", .ow "InvalidRow", false), (.ow "InvalidNumber", .ow "InvalidRun", false), (.ow "InvalidNumber", .ow "InvalidSign", false), (.ow "InvalidNumber", .bt "KeyError", false), (.ow "InvalidNumber", .bt "LookupError", true), (.ow "InvalidNumber", .ow "NothingToUndo", false), (.ow "InvalidNumber", .bt "OverflowError", false), (.ow "InvalidNumber", .ow "ParseError", false), (.ow "InvalidNumber", .ow "Refused", false), (.ow "InvalidNumber", .ow "TooMany", false), (.ow "InvalidNumber", .ow "UnknownName", false), (.ow "InvalidNumber", .ow "UnknownSite", false), (.ow "InvalidNumber", .bt "ValueError", false), (.ow "NothingToUndo", .bt "ArithmeticError", false), (.ow "NothingToUndo", .ow "DepthError", false), (.ow "NothingToUndo", .bt "IndexError", false), (.ow "NothingToUndo", .ow "InvalidCommand", false), (.ow "NothingToUndo", .ow "InvalidLimit", false), (.ow "NothingToUndo", .ow "InvalidLimits", false), (.ow "NothingToUndo", .ow "InvalidModes", false), (.ow "NothingToUndo", .ow "InvalidNumber", false), (.ow "NothingToUndo", .ow "InvalidOperation", false), (.ow "NothingToUndo", .ow "InvalidProgram", false), (.ow "NothingToUndo", .ow "InvalidRow", false), (.ow "NothingToUndo", .ow "InvalidRun", false), (.ow "NothingToUndo", .ow "InvalidSign", false), (.ow "NothingToUndo", .bt "KeyError", false), (.ow "NothingToUndo", .bt "LookupError", true), (.ow "NothingToUndo", .ow "NothingToUndo", true), (.ow "NothingToUndo", .bt "OverflowError", false), (.ow "NothingToUndo", .ow "ParseError", false), (.ow "NothingToUndo", .ow "Refused", false), (.ow "NothingToUndo", .ow "TooMany", false), (.ow "NothingToUndo", .ow "UnknownName", false), (.ow "NothingToUndo", .ow "UnknownSite", false), (.ow "NothingToUndo", .bt "ValueError", false), (.ow "Refused", .bt "ArithmeticError", true), (.ow "Refused", .ow "DepthError", false), (.ow "Refused", .bt "IndexError", false), (.ow "Refused", .ow "InvalidCommand", false), (.ow "Refused", .ow "InvalidLimit", false), (.ow "Refused", .ow "InvalidLimits", false), (.ow "Refused", .ow "InvalidModes", false), (.ow "Refused", .ow "InvalidNumber", false), (.ow "Refused", .ow "InvalidOperation", false), (.ow "Refused", .ow "InvalidProgram", false), (.ow "Refused", .ow "InvalidRow", false), (.ow "Refused", .ow "InvalidRun", false), (.ow "Refused", .ow "InvalidSign", false), (.ow "Refused", .bt "KeyError", false), (.ow "Refused", .bt "LookupError", false), (.ow "Refused", .ow "NothingToUndo", false), (.ow "Refused", .bt "OverflowError", false), (.ow "Refused", .ow "ParseError", false), (.ow "Refused", .ow "Refused", true), (.ow "Refused", .ow "TooMany", false), (.ow "Refused", .ow "UnknownName", false), (.ow "Refused", .ow "UnknownSite", false), (.ow "Refused", .bt "ValueError", false), (.ow "TooMany", .bt "ArithmeticError", true), (.ow "TooMany", .ow "DepthError", false), (.ow "TooMany", .bt "IndexError", false), (.ow "TooMany", .ow "InvalidCommand", false), (.ow "TooMany", .ow "InvalidLimit", false), (.ow "TooMany", .ow "InvalidLimits", false), (.ow "TooMany", .ow "InvalidModes", false), (.ow "TooMany", .ow "InvalidNumber", false), (.ow "TooMany", .ow "InvalidOperation", false), (.ow "TooMany", .ow "InvalidProgram", false), (.ow "TooMany", .ow "InvalidRow", false), (.ow "TooMany", .ow "InvalidRun", false), (.ow "TooMany", .ow "InvalidSign", false), (.ow "TooMany", .bt "KeyError", false), (.ow "TooMany", .bt "LookupError", false), (.ow "TooMany", .ow "NothingToUndo", false), (.ow "TooMany", .bt "OverflowError", true), (.ow "TooMany", .ow "ParseError", false), (.ow "TooMany", .ow "Refused", false), (.ow "TooMany", .ow "TooMany", true), (.ow "TooMany", .ow "UnknownName", false), (.ow "TooMany", .ow "UnknownSite", false), (.ow "TooMany", .bt "ValueError", false)]
abbrev s_ParseError___init__ : Stmt := inClass (topS 11) 0
abbrev N_ParseError___init__ : List Str := ["self", "line"]
theorem sc_ParseError___init__ : FnScope N_ParseError___init__ ["self", "line"] (defScope s_ParseError___init__) := ⟨rfl, rfl, rfl, by decide +kernel, rfl, by decide +kernel, by decide +kernel⟩
abbrev s_UnknownName___init__ : Stmt := inClass (topS 12) 0
abbrev N_UnknownName___init__ : List Str := ["self", "name"]
theorem sc_UnknownName___init__ : FnScope N_UnknownName___init__ ["self", "name"] (defScope s_UnknownName___init__) := ⟨rfl, rfl, rfl, by decide +kernel, rfl, by decide +kernel, by decide +kernel⟩
abbrev s_UnknownSite___init__ : Stmt := inClass (topS 13) 0
abbrev N_UnknownSite___init__ : List Str := ["self", "site"]
theorem sc_UnknownSite___init__ : FnScope N_UnknownSite___init__ ["self", "site"] (defScope s_UnknownSite___init__) := ⟨rfl, rfl, rfl, by decide +kernel, rfl, by decide +kernel, by decide +kernel⟩
abbrev s_InvalidNumber___init__ : Stmt := inClass (topS 14) 0
abbrev N_InvalidNumber___init__ : List Str := ["self", "value"]
theorem sc_InvalidNumber___init__ : FnScope N_InvalidNumber___init__ ["self", "value"] (defScope s_InvalidNumber___init__) := ⟨rfl, rfl, rfl, by decide +kernel, rfl, by decide +kernel, by decide +kernel⟩
abbrev s_NothingToUndo___init__ : Stmt := inClass (topS 15) 0
abbrev N_NothingToUndo___init__ : List Str := ["self", "many"]
theorem sc_NothingToUndo___init__ : FnScope N_NothingToUndo___init__ ["self", "many"] (defScope s_NothingToUndo___init__) := ⟨rfl, rfl, rfl, by decide +kernel, rfl, by decide +kernel, by decide +kernel⟩
abbrev s_Refused___init__ : Stmt := inClass (topS 16) 0
abbrev N_Refused___init__ : List Str := ["self", "name"]
theorem sc_Refused___init__ : FnScope N_Refused___init__ ["self", "name"] (defScope s_Refused___init__) := ⟨rfl, rfl, rfl, by decide +kernel, rfl, by decide +kernel, by decide +kernel⟩
abbrev s_TooMany___init__ : Stmt := inClass (topS 17) 0
abbrev N_TooMany___init__ : List Str := ["self", "limit"]
theorem sc_TooMany___init__ : FnScope N_TooMany___init__ ["self", "limit"] (defScope s_TooMany___init__) := ⟨rfl, rfl, rfl, by decide +kernel, rfl, by decide +kernel, by decide +kernel⟩
abbrev s__law_numbers : Stmt := topS 19
abbrev N__law_numbers : List Str := ["_law_script", "_law_at", "_law_cell", "_law_whole", "_law_mixed"]
theorem sc__law_numbers : FnScope N__law_numbers ["_law_script", "_law_at"] (defScope s__law_numbers) := ⟨rfl, rfl, rfl, by decide +kernel, rfl, by decide +kernel, by decide +kernel⟩
abbrev s__law_cast : Stmt := topS 20
abbrev N__law_cast : List Str := ["_law_die", "_law_total", "_law_one", "_law_two", "_law_found"]
theorem sc__law_cast : FnScope N__law_cast ["_law_die", "_law_total"] (defScope s__law_cast) := ⟨rfl, rfl, rfl, by decide +kernel, rfl, by decide +kernel, by decide +kernel⟩
abbrev s__law_pick : Stmt := topS 21
abbrev N__law_pick : List Str := ["_law_die", "_law_items"]
theorem sc__law_pick : FnScope N__law_pick ["_law_die", "_law_items"] (defScope s__law_pick) := ⟨rfl, rfl, rfl, by decide +kernel, rfl, by decide +kernel, by decide +kernel⟩
abbrev s__law_of_depth : Stmt := topS 22
abbrev N__law_of_depth : List Str := ["_law_error", "_law_told", "_law_at"]
theorem sc__law_of_depth : FnScope N__law_of_depth ["_law_error"] (defScope s__law_of_depth) := ⟨rfl, rfl, rfl, by decide +kernel, rfl, by decide +kernel, by decide +kernel⟩
abbrev s__law_of_others : Stmt := topS 23
abbrev N__law_of_others : List Str := ["_law_error", "_law_found"]
theorem sc__law_of_others : FnScope N__law_of_others ["_law_error"] (defScope s__law_of_others) := ⟨rfl, rfl, rfl, by decide +kernel, rfl, by decide +kernel, by decide +kernel⟩
abbrev s__law_plain_ones : Stmt := topS 24
abbrev N__law_plain_ones : List Str := ["_law_word", "_law_found"]
theorem sc__law_plain_ones : FnScope N__law_plain_ones ["_law_word"] (defScope s__law_plain_ones) := ⟨rfl, rfl, rfl, by decide +kernel, rfl, by decide +kernel, by decide +kernel⟩
abbrev s__law_right : Stmt := topS 25
abbrev N__law_right : List Str := ["_law_die", "_law_some", "_law_items", "_law_plain", "_law_lost", "_law_told", "_law_keeping", "_law_due", "_law_parse", "_law_unknown", "_law_wrong", "_law_undo", "_law_refused", "_law_over", "_law_turn", "_law_error", "_law_at"]
theorem sc__law_right : FnScope N__law_right ["_law_die"] (defScope s__law_right) := ⟨rfl, rfl, rfl, by decide +kernel, rfl, by decide +kernel, by decide +kernel⟩
abbrev s_law : Stmt := topS 26
abbrev N_law : List Str := ["_law_script", "_law_at"]
theorem sc_law : FnScope N_law ["_law_script"] (defScope s_law) := ⟨rfl, rfl, rfl, by decide +kernel, rfl, by decide +kernel, by decide +kernel⟩
noncomputable section
def b__law_numbers : Dz.Env → M Out := sSeq (sSet 2 (eIf (eTest (eOp cLt (eVar 1) (eCB bLen (aCons (eVar 0) (aNil))))) (eIx (eVar 0) (eVar 1)) (eOp opAdd (eOp opMul (eC (.int 59)) (eVar 1)) (eC (.int 17))))) (sSeq (sSet 3 (eOp opMod (eCB tInt (aCons (eCB bAbs (aCons (eVar 2) (aNil))) (aNil))) (eOp opPow (eOp opPow (eC (.int 10)) (eC (.int 59))) (eC (.int 11))))) (sSeq (sSet 4 (eOp opAdd (eOp opAdd (eOp opAdd (eOp opMul (eVar 3) (eC (.int 1000121))) (eOp opMul (eC (.int 8219)) (eVar 1))) (eOp opMul (eC (.int 31)) (eCB tInt (aCons (eOp cLt (eVar 2) (eC (.int 0))) (aNil))))) (eC (.int 7)))) (sRet (eCell (aCons (eCB bMax (aCons (eC (.int 0)) (aCons (eOp opSub (eVar 3) (eOp opPow (eC (.int 10)) (eC (.int 16)))) (aNil)))) (aCons (eOp opMod (eCB tInt (aCons (eVar 4) (aNil))) (eC (.int 1152921504606846817))) (aCons (eC (.int 0)) (aNil))))))))
def f__law_numbers : List Vl → M Vl := fnM 5 b__law_numbers
def b__law_cast : Dz.Env → M Out := sSeq (sIf (eTest (eOp cGt (eIx (eVar 0) (eC (.int 0))) (eC (.int 0)))) (sSeq (sSet 4 (eOp opMod (eCB tInt (aCons (eIx (eVar 0) (eC (.int 0))) (aNil))) (eVar 1))) (sSeq (sPut (eVar 0) (eC (.int 0)) (eOp opDiv (eIx (eVar 0) (eC (.int 0))) (eVar 1))) (sRet (eVar 4)))) (sNext)) (sSeq (sPut (eVar 0) (eC (.int 2)) (eOp opAdd (eIx (eVar 0) (eC (.int 2))) (eC (.int 1)))) (sSeq (sSet 2 (eOp opMod (eCB tInt (aCons (eOp opAdd (eIx (eVar 0) (eC (.int 1))) (eOp opMul (eC (.int 776531491)) (eIx (eVar 0) (eC (.int 2))))) (aNil))) (eC (.int 2305843009213693907)))) (sSeq (sSet 3 (eOp opAdd (eOp opMul (eOp opMod (eCB tInt (aCons (eOp opMul (eVar 2) (eVar 2)) (aNil))) (eC (.int 1152921504606846619))) (eVar 2)) (eOp opMul (eC (.int 7057)) (eIx (eVar 0) (eC (.int 2)))))) (sRet (eOp opMod (eCB tInt (aCons (eOp opDiv (eOp opMod (eCB tInt (aCons (eOp opAdd (eVar 3) (eIx (eVar 0) (eC (.int 1)))) (aNil))) (eC (.int 8796093022091))) (eC (.int 32))) (aNil))) (eVar 1))))))
def f__law_cast : List Vl → M Vl := fnM 5 b__law_cast
def b__law_of_depth : Dz.Env → M Out := sSeq (sSet 1 (eLst (aCons (eCB (bIsE excL tabE) (aCons (eVar 0) (aCons (eC (.cls "DepthError")) (aNil)))) (aCons (eCB (bIsE excL tabE) (aCons (eVar 0) (aCons (eC (.cls "InvalidProgram")) (aNil)))) (aCons (eCB (bIsE excL tabE) (aCons (eVar 0) (aCons (eC (.cls "InvalidRun")) (aNil)))) (aNil)))))) (sSeq (sSet 1 (eOp opAdd (eVar 1) (eLst (aCons (eCB (bIsE excL tabE) (aCons (eVar 0) (aCons (eC (.cls "InvalidLimit")) (aNil)))) (aCons (eCB (bIsE excL tabE) (aCons (eVar 0) (aCons (eC (.cls "InvalidLimits")) (aNil)))) (aNil)))))) (sSeq (sSet 1 (eOp opAdd (eVar 1) (eLst (aCons (eCB (bIsE excL tabE) (aCons (eVar 0) (aCons (eC (.cls "InvalidModes")) (aNil)))) (aCons (eCB (bIsE excL tabE) (aCons (eVar 0) (aCons (eC (.cls "InvalidRow")) (aNil)))) (aCons (eCB (bIsE excL tabE) (aCons (eVar 0) (aCons (eC (.cls "InvalidSign")) (aNil)))) (aNil))))))) (sSeq (sSet 1 (eOp opAdd (eVar 1) (eLst (aCons (eCB (bIsE excL tabE) (aCons (eVar 0) (aCons (eC (.cls "InvalidOperation")) (aNil)))) (aCons (eCB (bIsE excL tabE) (aCons (eVar 0) (aCons (eC (.cls "InvalidCommand")) (aNil)))) (aNil)))))) (sSeq (sSet 1 (eOp opAdd (eVar 1) (eLst (aCons (eCB (bIsE excL tabE) (aCons (eVar 0) (aCons (eC (.cls "ParseError")) (aNil)))) (aNil))))) (sRet (eNew (lcF (iRg (aCons (eC (.int 11)) (aNil))) (.one 2) (eTest (eIx (eVar 1) (eVar 2))) (eVar 2) [2])))))))
def f__law_of_depth : List Vl → M Vl := fnM 3 b__law_of_depth
def b__law_of_others : Dz.Env → M Out := sSeq (sSet 1 (eOp opAdd (eOp opMul (eLst (aCons (eC (.str "name")) (aNil))) (eCB tInt (aCons (eCB (bIsE excL tabE) (aCons (eVar 0) (aCons (eC (.cls "UnknownName")) (aNil)))) (aNil)))) (eOp opMul (eLst (aCons (eC (.str "site")) (aNil))) (eCB tInt (aCons (eCB (bIsE excL tabE) (aCons (eVar 0) (aCons (eC (.cls "UnknownSite")) (aNil)))) (aNil)))))) (sSeq (sSet 1 (eOp opAdd (eVar 1) (eOp opMul (eLst (aCons (eC (.str "number")) (aNil))) (eCB tInt (aCons (eCB (bIsE excL tabE) (aCons (eVar 0) (aCons (eC (.cls "InvalidNumber")) (aNil)))) (aNil)))))) (sSeq (sSet 1 (eOp opAdd (eVar 1) (eOp opMul (eLst (aCons (eC (.str "undo")) (aNil))) (eCB tInt (aCons (eCB (bIsE excL tabE) (aCons (eVar 0) (aCons (eC (.cls "NothingToUndo")) (aNil)))) (aNil)))))) (sSeq (sSet 1 (eOp opAdd (eOp opAdd (eVar 1) (eOp opMul (eLst (aCons (eC (.str "refused")) (aNil))) (eCB tInt (aCons (eCB (bIsE excL tabE) (aCons (eVar 0) (aCons (eC (.cls "Refused")) (aNil)))) (aNil))))) (eOp opMul (eLst (aCons (eC (.str "over")) (aNil))) (eCB tInt (aCons (eCB (bIsE excL tabE) (aCons (eVar 0) (aCons (eC (.cls "TooMany")) (aNil)))) (aNil)))))) (sSeq (sSet 1 (eOp opAdd (eOp opAdd (eVar 1) (eOp opMul (eLst (aCons (eC (.str "value")) (aNil))) (eCB tInt (aCons (eCB (bIsE excL tabE) (aCons (eVar 0) (aCons (eC (.ty "ValueError")) (aNil)))) (aNil))))) (eOp opMul (eLst (aCons (eC (.str "key")) (aNil))) (eCB tInt (aCons (eCB (bIsE excL tabE) (aCons (eVar 0) (aCons (eC (.ty "KeyError")) (aNil)))) (aNil)))))) (sSeq (sSet 1 (eOp opAdd (eVar 1) (eOp opMul (eLst (aCons (eC (.str "index")) (aNil))) (eCB tInt (aCons (eCB (bIsE excL tabE) (aCons (eVar 0) (aCons (eC (.ty "IndexError")) (aNil)))) (aNil)))))) (sSeq (sSet 1 (eOp opAdd (eVar 1) (eOp opMul (eLst (aCons (eC (.str "lookup")) (aNil))) (eCB tInt (aCons (eCB (bIsE excL tabE) (aCons (eVar 0) (aCons (eC (.ty "LookupError")) (aNil)))) (aNil)))))) (sSeq (sSet 1 (eOp opAdd (eVar 1) (eOp opMul (eLst (aCons (eC (.str "arithmetic")) (aNil))) (eCB tInt (aCons (eCB (bIsE excL tabE) (aCons (eVar 0) (aCons (eC (.ty "ArithmeticError")) (aNil)))) (aNil)))))) (sRet (eOp opAdd (eVar 1) (eOp opMul (eLst (aCons (eC (.str "overflow")) (aNil))) (eCB tInt (aCons (eCB (bIsE excL tabE) (aCons (eVar 0) (aCons (eC (.ty "OverflowError")) (aNil)))) (aNil)))))))))))))
def f__law_of_others : List Vl → M Vl := fnM 2 b__law_of_others
def b__law_plain_ones : Dz.Env → M Out := sSeq (sSet 1 (eLst (aCons (eExn "DepthError" (eVar 0)) (aCons (eExn "InvalidProgram" (eVar 0)) (aCons (eExn "InvalidRun" (eVar 0)) (aCons (eExn "InvalidLimit" (eVar 0)) (aCons (eExn "InvalidLimits" (eVar 0)) (aNil)))))))) (sSeq (sSet 1 (eOp opAdd (eVar 1) (eLst (aCons (eExn "InvalidModes" (eVar 0)) (aCons (eExn "InvalidRow" (eVar 0)) (aCons (eExn "InvalidSign" (eVar 0)) (aNil))))))) (sRet (eOp opAdd (eVar 1) (eLst (aCons (eExn "InvalidOperation" (eVar 0)) (aCons (eExn "InvalidCommand" (eVar 0)) (aNil)))))))
def f__law_plain_ones : List Vl → M Vl := fnM 2 b__law_plain_ones
def b__law_pick : Dz.Env → M Out := sRet (eIx (eVar 1) (eCall f__law_cast (aCons (eVar 0) (aCons (eCB bLen (aCons (eVar 1) (aNil))) (aNil)))))
def f__law_pick : List Vl → M Vl := fnM 2 b__law_pick
def b__law_right : Dz.Env → M Out := sSeq (sSet 1 (eLst (aCons (eC (.int 0)) (aCons (eC (.int 7)) (aCons (eC (.str "p")) (aCons (eC (.str "")) (aCons (eTup (aCons (eC (.str "p")) (aCons (eC (.int 3)) (aNil)))) (aCons (eC .non) (aCons (eUn opNeg (eC (.int 1))) (aCons (eOp opPow (eC (.int 10)) (eC (.int 39))) (aCons (eLst (aCons (eC (.int 1)) (aNil))) (aCons (eC (.dct [])) (aCons (eC (.bl true)) (aCons (eTup (aNil)) (aCons (eC (.str "a b")) (aNil)))))))))))))))) (sSeq (sSet 2 (eNew (lcF (iRg (aCons (eC (.int 7)) (aNil))) (.one 14) (bYes) (eCall f__law_pick (aCons (eVar 0) (aCons (eVar 1) (aNil)))) [14]))) (sSeq (sSet 3 (eCall f__law_plain_ones (aCons (eCall f__law_pick (aCons (eVar 0) (aCons (eLst (aCons (eC (.str "")) (aCons (eC (.str "x")) (aCons (eC (.str "a name")) (aNil))))) (aNil)))) (aNil)))) (sSeq (sIf (eTest (eOp cNeX (eNew (lcF (iOf itA (eVar 3)) (.one 15) (bYes) (eCall f__law_of_depth (aCons (eVar 15) (aNil))) [15])) (eOp opAdd (eLst (aCons (eLst (aCons (eC (.int 0)) (aNil))) (aNil))) (eNew (lcF (iRg (aCons (eC (.int 1)) (aCons (eC (.int 10)) (aNil)))) (.one 16) (bYes) (eLst (aCons (eC (.int 0)) (aCons (eVar 16) (aNil)))) [16]))))) (sRet (eC (.bl false))) (sNext)) (sSeq (sIf (eTest (eOp cNeX (eNew (lcF (iOf itA (eVar 3)) (.one 15) (bYes) (eCall f__law_of_others (aCons (eVar 15) (aNil))) [15])) (eOp opMul (eLst (aCons (eLst (aCons (eC (.str "value")) (aNil))) (aNil))) (eC (.int 10))))) (sRet (eC (.bl false))) (sNext)) (sSeq (sPar 8 9 (aCons (eExk "ParseError" "line" (eIx (eVar 2) (eC (.int 0)))) (aCons (eExk "UnknownName" "name" (eIx (eVar 2) (eC (.int 1)))) (aNil)))) (sSeq (sSet 4 (eExk "UnknownSite" "site" (eIx (eVar 2) (eC (.int 2))))) (sSeq (sPar 10 11 (aCons (eExk "InvalidNumber" "value" (eIx (eVar 2) (eC (.int 3)))) (aCons (eExk "NothingToUndo" "many" (eIx (eVar 2) (eC (.int 4)))) (aNil)))) (sSeq (sPar 12 13 (aCons (eExk "Refused" "name" (eIx (eVar 2) (eC (.int 5)))) (aCons (eExk "TooMany" "limit" (eIx (eVar 2) (eC (.int 6)))) (aNil)))) (sSeq (sSet 5 (eLst (aCons (eXf ["ParseError"] "line" (eVar 8)) (aCons (eXf ["Refused", "UnknownName"] "name" (eVar 9)) (aCons (eXf ["UnknownSite"] "site" (eVar 4)) (aCons (eXf ["InvalidNumber"] "value" (eVar 10)) (aCons (eXf ["NothingToUndo"] "many" (eVar 11)) (aCons (eXf ["Refused", "UnknownName"] "name" (eVar 12)) (aCons (eXf ["TooMany"] "limit" (eVar 13)) (aNil)))))))))) (sSeq (sIf (bOr (eTest (eOp cNeX (eCB bReprE (aCons (eVar 5) (aNil))) (eCB bReprE (aCons (eVar 2) (aNil))))) (eTest (eOp cNeX (eCall f__law_of_depth (aCons (eVar 8) (aNil))) (eLst (aCons (eC (.int 0)) (aCons (eC (.int 10)) (aNil))))))) (sRet (eC (.bl false))) (sNext)) (sSeq (sIf (eTest (eOp cNeX (eCall f__law_of_others (aCons (eVar 8) (aNil))) (eLst (aCons (eC (.str "value")) (aNil))))) (sRet (eC (.bl false))) (sNext)) (sSeq (sSet 6 (eLst (aCons (eVar 9) (aCons (eVar 4) (aCons (eVar 10) (aCons (eVar 11) (aCons (eVar 12) (aCons (eVar 13) (aNil))))))))) (sSeq (sIf (eTest (eOp cNeX (eNew (lcF (iOf itA (eVar 6)) (.one 15) (bYes) (eCall f__law_of_depth (aCons (eVar 15) (aNil))) [15])) (eOp opMul (eLst (aCons (eLst (aNil)) (aNil))) (eC (.int 6))))) (sRet (eC (.bl false))) (sNext)) (sSeq (sSet 7 (eLst (aCons (eLst (aCons (eC (.str "name")) (aCons (eC (.str "key")) (aCons (eC (.str "lookup")) (aNil))))) (aCons (eLst (aCons (eC (.str "site")) (aCons (eC (.str "key")) (aCons (eC (.str "lookup")) (aNil))))) (aCons (eLst (aCons (eC (.str "number")) (aCons (eC (.str "index")) (aCons (eC (.str "lookup")) (aNil))))) (aCons (eLst (aCons (eC (.str "undo")) (aCons (eC (.str "lookup")) (aNil)))) (aNil))))))) (sSeq (sSet 7 (eOp opAdd (eVar 7) (eLst (aCons (eLst (aCons (eC (.str "refused")) (aCons (eC (.str "arithmetic")) (aNil)))) (aCons (eLst (aCons (eC (.str "over")) (aCons (eC (.str "arithmetic")) (aCons (eC (.str "overflow")) (aNil))))) (aNil)))))) (sRet (eOp cEqX (eNew (lcF (iOf itA (eVar 6)) (.one 15) (bYes) (eCall f__law_of_others (aCons (eVar 15) (aNil))) [15])) (eVar 7))))))))))))))))))
def f__law_right : List Vl → M Vl := fnM 17 b__law_right
def b_law : Dz.Env → M Out := sSeq (sFor (iRg (aCons (eCB bMax (aCons (eC (.int 1)) (aCons (eCB bMinL (aCons (eC (.int 8)) (aCons (eCB bLen (aCons (eVar 0) (aNil))) (aNil)))) (aNil)))) (aNil))) (.one 1) (sIf (bNot (eTest (eCall f__law_right (aCons (eCall f__law_numbers (aCons (eVar 0) (aCons (eVar 1) (aNil)))) (aNil))))) (sRet (eC (.bl false))) (sNext))) (sRet (eC (.bl true)))
def f_law : List Vl → M Vl := fnM 2 b_law
end
structure Txt0 (K : Frag) (mg : Str → Option Value) : Prop where
  z_ArithmeticError : mg "ArithmeticError" = none
  z_IndexError : mg "IndexError" = none
  z_KeyError : mg "KeyError" = none
  z_LookupError : mg "LookupError" = none
  z_OverflowError : mg "OverflowError" = none
  z_ValueError : mg "ValueError" = none
  z_abs : mg "abs" = none
  z_int : mg "int" = none
  z_isinstance : mg "isinstance" = none
  z_len : mg "len" = none
  z_max : mg "max" = none
  z_min : mg "min" = none
  z_range : mg "range" = none
  z_repr : mg "repr" = none
  bo2_DepthError_ValueError : BaseO K "DepthError" "ValueError.__init__"
  bx_ArithmeticError : PySem.W.findCls K (.type "ArithmeticError") (.type "type") "__init__" = some (.val (.builtin "ArithmeticError.__init__"))
  bx_IndexError : PySem.W.findCls K (.type "IndexError") (.type "type") "__init__" = some (.val (.builtin "IndexError.__init__"))
  bx_KeyError : PySem.W.findCls K (.type "KeyError") (.type "type") "__init__" = some (.val (.builtin "KeyError.__init__"))
  bx_LookupError : PySem.W.findCls K (.type "LookupError") (.type "type") "__init__" = some (.val (.builtin "LookupError.__init__"))
  bx_OverflowError : PySem.W.findCls K (.type "OverflowError") (.type "type") "__init__" = some (.val (.builtin "OverflowError.__init__"))
  ef : ∀ c ∈ excL, ErrF K (He.ga K c)
  g__law_cast : mg "_law_cast" = some (.ref ((Ad.g "_law_cast").at K))
  g__law_numbers : mg "_law_numbers" = some (.ref ((Ad.g "_law_numbers").at K))
  g__law_of_depth : mg "_law_of_depth" = some (.ref ((Ad.g "_law_of_depth").at K))
  g__law_of_others : mg "_law_of_others" = some (.ref ((Ad.g "_law_of_others").at K))
  g__law_pick : mg "_law_pick" = some (.ref ((Ad.g "_law_pick").at K))
  g__law_plain_ones : mg "_law_plain_ones" = some (.ref ((Ad.g "_law_plain_ones").at K))
  g__law_right : mg "_law_right" = some (.ref ((Ad.g "_law_right").at K))
  gc_DepthError : mg "DepthError" = some (.ref (He.ga K "DepthError"))
  gc_InvalidCommand : mg "InvalidCommand" = some (.ref (He.ga K "InvalidCommand"))
  gc_InvalidLimit : mg "InvalidLimit" = some (.ref (He.ga K "InvalidLimit"))
  gc_InvalidLimits : mg "InvalidLimits" = some (.ref (He.ga K "InvalidLimits"))
  gc_InvalidModes : mg "InvalidModes" = some (.ref (He.ga K "InvalidModes"))
  gc_InvalidNumber : mg "InvalidNumber" = some (.ref (He.ga K "InvalidNumber"))
  gc_InvalidOperation : mg "InvalidOperation" = some (.ref (He.ga K "InvalidOperation"))
  gc_InvalidProgram : mg "InvalidProgram" = some (.ref (He.ga K "InvalidProgram"))
  gc_InvalidRow : mg "InvalidRow" = some (.ref (He.ga K "InvalidRow"))
  gc_InvalidRun : mg "InvalidRun" = some (.ref (He.ga K "InvalidRun"))
  gc_InvalidSign : mg "InvalidSign" = some (.ref (He.ga K "InvalidSign"))
  gc_NothingToUndo : mg "NothingToUndo" = some (.ref (He.ga K "NothingToUndo"))
  gc_ParseError : mg "ParseError" = some (.ref (He.ga K "ParseError"))
  gc_Refused : mg "Refused" = some (.ref (He.ga K "Refused"))
  gc_TooMany : mg "TooMany" = some (.ref (He.ga K "TooMany"))
  gc_UnknownName : mg "UnknownName" = some (.ref (He.ga K "UnknownName"))
  gc_UnknownSite : mg "UnknownSite" = some (.ref (He.ga K "UnknownSite"))
  kp__law_cast : PySem.W.keepIn K (.ref ((Ad.g "_law_cast").at K)) = true
  kp__law_numbers : PySem.W.keepIn K (.ref ((Ad.g "_law_numbers").at K)) = true
  kp__law_of_depth : PySem.W.keepIn K (.ref ((Ad.g "_law_of_depth").at K)) = true
  kp__law_of_others : PySem.W.keepIn K (.ref ((Ad.g "_law_of_others").at K)) = true
  kp__law_pick : PySem.W.keepIn K (.ref ((Ad.g "_law_pick").at K)) = true
  kp__law_plain_ones : PySem.W.keepIn K (.ref ((Ad.g "_law_plain_ones").at K)) = true
  kp__law_right : PySem.W.keepIn K (.ref ((Ad.g "_law_right").at K)) = true
  kx_InvalidNumber : KeepX K "InvalidNumber" "value" "IndexError" "IndexError.__new__" "IndexError.__init__" [.type "IndexError", .type "LookupError", .type "Exception", .type "BaseException", .type "object"]
  kx_NothingToUndo : KeepX K "NothingToUndo" "many" "LookupError" "LookupError.__new__" "LookupError.__init__" [.type "LookupError", .type "Exception", .type "BaseException", .type "object"]
  kx_ParseError : KeepX K "ParseError" "line" "ValueError" "ValueError.__new__" "ValueError.__init__" [.type "ValueError", .type "Exception", .type "BaseException", .type "object"]
  kx_Refused : KeepX K "Refused" "name" "ArithmeticError" "ArithmeticError.__new__" "ArithmeticError.__init__" [.type "ArithmeticError", .type "Exception", .type "BaseException", .type "object"]
  kx_TooMany : KeepX K "TooMany" "limit" "OverflowError" "OverflowError.__new__" "OverflowError.__init__" [.type "OverflowError", .type "ArithmeticError", .type "Exception", .type "BaseException", .type "object"]
  kx_UnknownName : KeepX K "UnknownName" "name" "KeyError" "LookupError.__new__" "KeyError.__init__" [.type "KeyError", .type "LookupError", .type "Exception", .type "BaseException", .type "object"]
  kx_UnknownSite : KeepX K "UnknownSite" "site" "KeyError" "LookupError.__new__" "KeyError.__init__" [.type "KeyError", .type "LookupError", .type "Exception", .type "BaseException", .type "object"]
  mx_DepthError : MsgX K "DepthError"
  mx_InvalidCommand : MsgX K "InvalidCommand"
  mx_InvalidLimit : MsgX K "InvalidLimit"
  mx_InvalidLimits : MsgX K "InvalidLimits"
  mx_InvalidModes : MsgX K "InvalidModes"
  mx_InvalidOperation : MsgX K "InvalidOperation"
  mx_InvalidProgram : MsgX K "InvalidProgram"
  mx_InvalidRow : MsgX K "InvalidRow"
  mx_InvalidRun : MsgX K "InvalidRun"
  mx_InvalidSign : MsgX K "InvalidSign"
  te : TabOk K tabE
  xf_limit_TooMany : ∀ c ∈ [("TooMany" : Str)], L2.XfC K (He.ga K c) ∧ PySem.W.findIn K (.ref (He.ga K c)) "limit" = some none
  xf_line_ParseError : ∀ c ∈ [("ParseError" : Str)], L2.XfC K (He.ga K c) ∧ PySem.W.findIn K (.ref (He.ga K c)) "line" = some none
  xf_many_NothingToUndo : ∀ c ∈ [("NothingToUndo" : Str)], L2.XfC K (He.ga K c) ∧ PySem.W.findIn K (.ref (He.ga K c)) "many" = some none
  xf_name_Refused_UnknownName : ∀ c ∈ [("Refused" : Str), ("UnknownName" : Str)], L2.XfC K (He.ga K c) ∧ PySem.W.findIn K (.ref (He.ga K c)) "name" = some none
  xf_site_UnknownSite : ∀ c ∈ [("UnknownSite" : Str)], L2.XfC K (He.ga K c) ∧ PySem.W.findIn K (.ref (He.ga K c)) "site" = some none
  xf_value_InvalidNumber : ∀ c ∈ [("InvalidNumber" : Str)], L2.XfC K (He.ga K c) ∧ PySem.W.findIn K (.ref (He.ga K c)) "value" = some none
  F_ParseError___init__ : ∃ fd, FunD K "__init__" "ParseError.__init__" (defArgs s_ParseError___init__) (defBody s_ParseError___init__) (defScope s_ParseError___init__) [] [] ((.m "ParseError" "__init__" : Ad).at K) fd
  F_UnknownName___init__ : ∃ fd, FunD K "__init__" "UnknownName.__init__" (defArgs s_UnknownName___init__) (defBody s_UnknownName___init__) (defScope s_UnknownName___init__) [] [] ((.m "UnknownName" "__init__" : Ad).at K) fd
  F_UnknownSite___init__ : ∃ fd, FunD K "__init__" "UnknownSite.__init__" (defArgs s_UnknownSite___init__) (defBody s_UnknownSite___init__) (defScope s_UnknownSite___init__) [] [] ((.m "UnknownSite" "__init__" : Ad).at K) fd
  F_InvalidNumber___init__ : ∃ fd, FunD K "__init__" "InvalidNumber.__init__" (defArgs s_InvalidNumber___init__) (defBody s_InvalidNumber___init__) (defScope s_InvalidNumber___init__) [] [] ((.m "InvalidNumber" "__init__" : Ad).at K) fd
  F_NothingToUndo___init__ : ∃ fd, FunD K "__init__" "NothingToUndo.__init__" (defArgs s_NothingToUndo___init__) (defBody s_NothingToUndo___init__) (defScope s_NothingToUndo___init__) [] [] ((.m "NothingToUndo" "__init__" : Ad).at K) fd
  F_Refused___init__ : ∃ fd, FunD K "__init__" "Refused.__init__" (defArgs s_Refused___init__) (defBody s_Refused___init__) (defScope s_Refused___init__) [] [] ((.m "Refused" "__init__" : Ad).at K) fd
  F_TooMany___init__ : ∃ fd, FunD K "__init__" "TooMany.__init__" (defArgs s_TooMany___init__) (defBody s_TooMany___init__) (defScope s_TooMany___init__) [] [] ((.m "TooMany" "__init__" : Ad).at K) fd
  F__law_numbers : ∃ fd, FunD K "_law_numbers" "_law_numbers" (defArgs s__law_numbers) (defBody s__law_numbers) (defScope s__law_numbers) [] [] ((.g "_law_numbers" : Ad).at K) fd
  F__law_cast : ∃ fd, FunD K "_law_cast" "_law_cast" (defArgs s__law_cast) (defBody s__law_cast) (defScope s__law_cast) [] [] ((.g "_law_cast" : Ad).at K) fd
  F__law_pick : ∃ fd, FunD K "_law_pick" "_law_pick" (defArgs s__law_pick) (defBody s__law_pick) (defScope s__law_pick) [] [] ((.g "_law_pick" : Ad).at K) fd
  F__law_of_depth : ∃ fd, FunD K "_law_of_depth" "_law_of_depth" (defArgs s__law_of_depth) (defBody s__law_of_depth) (defScope s__law_of_depth) [] [] ((.g "_law_of_depth" : Ad).at K) fd
  F__law_of_others : ∃ fd, FunD K "_law_of_others" "_law_of_others" (defArgs s__law_of_others) (defBody s__law_of_others) (defScope s__law_of_others) [] [] ((.g "_law_of_others" : Ad).at K) fd
  F__law_plain_ones : ∃ fd, FunD K "_law_plain_ones" "_law_plain_ones" (defArgs s__law_plain_ones) (defBody s__law_plain_ones) (defScope s__law_plain_ones) [] [] ((.g "_law_plain_ones" : Ad).at K) fd
  F__law_right : ∃ fd, FunD K "_law_right" "_law_right" (defArgs s__law_right) (defBody s__law_right) (defScope s__law_right) [] [] ((.g "_law_right" : Ad).at K) fd
  F_law : ∃ fd, FunD K "law" "law" (defArgs s_law) (defBody s_law) (defScope s_law) [] [] ((.g "law" : Ad).at K) fd
section
variable {P : Program} {w : World} {K : Frag} {mg : Str → Option Value}
abbrev P_ParseError___init__ (P : Program) (w : World) (K : Frag) (mg : Str → Option Value) : Prop := ∀ base : Heap, Bs K mg base → FnG P w K mg base (CX P w) 1 2 (He.ma K (He.ga K "ParseError") "__init__") (spKeep (He.ga K "ParseError") "line")
abbrev P_UnknownName___init__ (P : Program) (w : World) (K : Frag) (mg : Str → Option Value) : Prop := ∀ base : Heap, Bs K mg base → FnG P w K mg base (CX P w) 1 2 (He.ma K (He.ga K "UnknownName") "__init__") (spKeep (He.ga K "UnknownName") "name")
abbrev P_UnknownSite___init__ (P : Program) (w : World) (K : Frag) (mg : Str → Option Value) : Prop := ∀ base : Heap, Bs K mg base → FnG P w K mg base (CX P w) 1 2 (He.ma K (He.ga K "UnknownSite") "__init__") (spKeep (He.ga K "UnknownSite") "site")
abbrev P_InvalidNumber___init__ (P : Program) (w : World) (K : Frag) (mg : Str → Option Value) : Prop := ∀ base : Heap, Bs K mg base → FnG P w K mg base (CX P w) 1 2 (He.ma K (He.ga K "InvalidNumber") "__init__") (spKeep (He.ga K "InvalidNumber") "value")
abbrev P_NothingToUndo___init__ (P : Program) (w : World) (K : Frag) (mg : Str → Option Value) : Prop := ∀ base : Heap, Bs K mg base → FnG P w K mg base (CX P w) 1 2 (He.ma K (He.ga K "NothingToUndo") "__init__") (spKeep (He.ga K "NothingToUndo") "many")
abbrev P_Refused___init__ (P : Program) (w : World) (K : Frag) (mg : Str → Option Value) : Prop := ∀ base : Heap, Bs K mg base → FnG P w K mg base (CX P w) 1 2 (He.ma K (He.ga K "Refused") "__init__") (spKeep (He.ga K "Refused") "name")
abbrev P_TooMany___init__ (P : Program) (w : World) (K : Frag) (mg : Str → Option Value) : Prop := ∀ base : Heap, Bs K mg base → FnG P w K mg base (CX P w) 1 2 (He.ma K (He.ga K "TooMany") "__init__") (spKeep (He.ga K "TooMany") "limit")
abbrev P__law_numbers (P : Program) (w : World) (K : Frag) (mg : Str → Option Value) : Prop := ∀ base : Heap, Bs K mg base → FnG P w K mg base (CX P w) 1 2 ((.g "_law_numbers" : Ad).at K) (spM ⟨K, w⟩ 2 f__law_numbers)
abbrev P__law_cast (P : Program) (w : World) (K : Frag) (mg : Str → Option Value) : Prop := ∀ base : Heap, Bs K mg base → FnG P w K mg base (CX P w) 1 2 ((.g "_law_cast" : Ad).at K) (spM ⟨K, w⟩ 2 f__law_cast)
abbrev P__law_of_depth (P : Program) (w : World) (K : Frag) (mg : Str → Option Value) : Prop := ∀ base : Heap, Bs K mg base → FnG P w K mg base (CX P w) 1 1 ((.g "_law_of_depth" : Ad).at K) (spM ⟨K, w⟩ 1 f__law_of_depth)
abbrev P__law_of_others (P : Program) (w : World) (K : Frag) (mg : Str → Option Value) : Prop := ∀ base : Heap, Bs K mg base → FnG P w K mg base (CX P w) 1 1 ((.g "_law_of_others" : Ad).at K) (spM ⟨K, w⟩ 1 f__law_of_others)
abbrev P__law_plain_ones (P : Program) (w : World) (K : Frag) (mg : Str → Option Value) : Prop := ∀ base : Heap, Bs K mg base → FnG P w K mg base (CX P w) 1 1 ((.g "_law_plain_ones" : Ad).at K) (spM ⟨K, w⟩ 1 f__law_plain_ones)
abbrev P__law_pick (P : Program) (w : World) (K : Frag) (mg : Str → Option Value) : Prop := ∀ base : Heap, Bs K mg base → FnG P w K mg base (CX P w) 2 2 ((.g "_law_pick" : Ad).at K) (spM ⟨K, w⟩ 2 f__law_pick)
abbrev P__law_right (P : Program) (w : World) (K : Frag) (mg : Str → Option Value) : Prop := ∀ base : Heap, Bs K mg base → FnG P w K mg base (CX P w) 3 1 ((.g "_law_right" : Ad).at K) (spM ⟨K, w⟩ 1 f__law_right)
abbrev P_law (P : Program) (w : World) (K : Frag) (mg : Str → Option Value) : Prop := ∀ base : Heap, Bs K mg base → FnG P w K mg base (CX P w) 4 1 ((.g "law" : Ad).at K) (spM ⟨K, w⟩ 1 f_law)
set_option maxHeartbeats 4000000 in
theorem ok_ParseError___init__ (T : Txt0 K mg) : P_ParseError___init__ P w K mg := by
  obtain ⟨fd, F⟩ := T.F_ParseError___init__
  intro base hB
  exact fng_keepO F (F.bindsN fun _ _ _ _ _ _ us hl => match us, hl with | [_, _], _ => by kernel_rfl) sc_ParseError___init__ T.kx_ParseError.cls T.kx_ParseError.free (fun X => ⟨_, rfl, rfl, rfl, rfl, rfl, rfl⟩) rfl T.gc_DepthError T.bo2_DepthError_ValueError (by decide) (by decide +kernel) rfl rfl
set_option maxHeartbeats 4000000 in
theorem ok_UnknownName___init__ (T : Txt0 K mg) : P_UnknownName___init__ P w K mg := by
  obtain ⟨fd, F⟩ := T.F_UnknownName___init__
  intro base hB
  exact fng_keep F (F.bindsN fun _ _ _ _ _ _ us hl => match us, hl with | [_, _], _ => by kernel_rfl) sc_UnknownName___init__ T.kx_UnknownName.cls T.kx_UnknownName.free (fun X => ⟨_, rfl, rfl, rfl, rfl, rfl, rfl⟩) (builtX_of rfl T.z_KeyError (by decide +kernel) (by decide) rfl (by decide +kernel) T.bx_KeyError (by decide +kernel)) rfl rfl
set_option maxHeartbeats 4000000 in
theorem ok_UnknownSite___init__ (T : Txt0 K mg) : P_UnknownSite___init__ P w K mg := by
  obtain ⟨fd, F⟩ := T.F_UnknownSite___init__
  intro base hB
  exact fng_keep F (F.bindsN fun _ _ _ _ _ _ us hl => match us, hl with | [_, _], _ => by kernel_rfl) sc_UnknownSite___init__ T.kx_UnknownSite.cls T.kx_UnknownSite.free (fun X => ⟨_, rfl, rfl, rfl, rfl, rfl, rfl⟩) (builtX_of rfl T.z_KeyError (by decide +kernel) (by decide) rfl (by decide +kernel) T.bx_KeyError (by decide +kernel)) rfl rfl
set_option maxHeartbeats 4000000 in
theorem ok_InvalidNumber___init__ (T : Txt0 K mg) : P_InvalidNumber___init__ P w K mg := by
  obtain ⟨fd, F⟩ := T.F_InvalidNumber___init__
  intro base hB
  exact fng_keep F (F.bindsN fun _ _ _ _ _ _ us hl => match us, hl with | [_, _], _ => by kernel_rfl) sc_InvalidNumber___init__ T.kx_InvalidNumber.cls T.kx_InvalidNumber.free (fun X => ⟨_, rfl, rfl, rfl, rfl, rfl, rfl⟩) (builtX_of rfl T.z_IndexError (by decide +kernel) (by decide) rfl (by decide +kernel) T.bx_IndexError (by decide +kernel)) rfl rfl
set_option maxHeartbeats 4000000 in
theorem ok_NothingToUndo___init__ (T : Txt0 K mg) : P_NothingToUndo___init__ P w K mg := by
  obtain ⟨fd, F⟩ := T.F_NothingToUndo___init__
  intro base hB
  exact fng_keep F (F.bindsN fun _ _ _ _ _ _ us hl => match us, hl with | [_, _], _ => by kernel_rfl) sc_NothingToUndo___init__ T.kx_NothingToUndo.cls T.kx_NothingToUndo.free (fun X => ⟨_, rfl, rfl, rfl, rfl, rfl, rfl⟩) (builtX_of rfl T.z_LookupError (by decide +kernel) (by decide) rfl (by decide +kernel) T.bx_LookupError (by decide +kernel)) rfl rfl
set_option maxHeartbeats 4000000 in
theorem ok_Refused___init__ (T : Txt0 K mg) : P_Refused___init__ P w K mg := by
  obtain ⟨fd, F⟩ := T.F_Refused___init__
  intro base hB
  exact fng_keep F (F.bindsN fun _ _ _ _ _ _ us hl => match us, hl with | [_, _], _ => by kernel_rfl) sc_Refused___init__ T.kx_Refused.cls T.kx_Refused.free (fun X => ⟨_, rfl, rfl, rfl, rfl, rfl, rfl⟩) (builtX_of rfl T.z_ArithmeticError (by decide +kernel) (by decide) rfl (by decide +kernel) T.bx_ArithmeticError (by decide +kernel)) rfl rfl
set_option maxHeartbeats 4000000 in
theorem ok_TooMany___init__ (T : Txt0 K mg) : P_TooMany___init__ P w K mg := by
  obtain ⟨fd, F⟩ := T.F_TooMany___init__
  intro base hB
  exact fng_keep F (F.bindsN fun _ _ _ _ _ _ us hl => match us, hl with | [_, _], _ => by kernel_rfl) sc_TooMany___init__ T.kx_TooMany.cls T.kx_TooMany.free (fun X => ⟨_, rfl, rfl, rfl, rfl, rfl, rfl⟩) (builtX_of rfl T.z_OverflowError (by decide +kernel) (by decide) rfl (by decide +kernel) T.bx_OverflowError (by decide +kernel)) rfl rfl
set_option maxHeartbeats 4000000 in
theorem ok__law_numbers (T : Txt0 K mg) : P__law_numbers P w K mg := by
  obtain ⟨fd, F⟩ := T.F__law_numbers
  intro base hB
  refine fn_okC F (F.bindsN fun _ _ _ _ _ _ us hl => match us, hl with | [_, _], _ => by kernel_rfl) sc__law_numbers fun cdv A outer s H E hcd hr => ?_
  have hu := hr.room.units
  exact ms_cons (ms_set (i := 2) sc__law_numbers.nd rfl (by first | exact Or.inl rfl | exact Or.inr rfl) (me_if (mt_cmp om_lt (me_var 1) (me_callB (cm_len) rfl T.z_len (by decide +kernel) (ma_cons (me_var 0) (ma_nil)))) (me_ix (me_var 0) (me_var 1)) (me_op om_add (me_op om_mul (me_int) (me_var 1)) (me_int)))) (ms_cons (ms_set (i := 3) sc__law_numbers.nd rfl (by first | exact Or.inl rfl | exact Or.inr rfl) (me_op om_mod (me_callTy (cm_int) rfl T.z_int (by decide +kernel) (ma_cons (me_callB (cm_abs) rfl T.z_abs (by decide +kernel) (ma_cons (me_var 2) (ma_nil))) (ma_nil))) (me_op om_pow (me_op om_pow (me_int) (me_int)) (me_int)))) (ms_cons (ms_set (i := 4) sc__law_numbers.nd rfl (by first | exact Or.inl rfl | exact Or.inr rfl) (me_op om_add (me_op om_add (me_op om_add (me_op om_mul (me_var 3) (me_int)) (me_op om_mul (me_int) (me_var 1))) (me_op om_mul (me_int) (me_callTy (cm_int) rfl T.z_int (by decide +kernel) (ma_cons (me_cmp om_lt (me_var 2) (me_int)) (ma_nil))))) (me_int))) (ms_one (ms_ret (me_cell (ma_cons (me_callB (cm_max rfl) rfl T.z_max (by decide +kernel) (ma_cons (me_int) (ma_cons (me_op om_sub (me_var 3) (me_op om_pow (me_int) (me_int))) (ma_nil)))) (ma_cons (me_op om_mod (me_callTy (cm_int) rfl T.z_int (by decide +kernel) (ma_cons (me_var 4) (ma_nil))) (me_int)) (ma_cons (me_int) (ma_nil)))))))))
set_option maxHeartbeats 4000000 in
theorem ok__law_cast (T : Txt0 K mg) : P__law_cast P w K mg := by
  obtain ⟨fd, F⟩ := T.F__law_cast
  intro base hB
  refine fn_okC F (F.bindsN fun _ _ _ _ _ _ us hl => match us, hl with | [_, _], _ => by kernel_rfl) sc__law_cast fun cdv A outer s H E hcd hr => ?_
  have hu := hr.room.units
  exact ms_cons (ms_if (mt_cmp om_gt (me_ix (me_var 0) (me_int)) (me_int)) (ms_cons (ms_set (i := 4) sc__law_cast.nd rfl (by first | exact Or.inl rfl | exact Or.inr rfl) (me_op om_mod (me_callTy (cm_int) rfl T.z_int (by decide +kernel) (ma_cons (me_ix (me_var 0) (me_int)) (ma_nil))) (me_var 1))) (ms_cons (ms_put (me_op om_div (me_ix (me_var 0) (me_int)) (me_var 1)) (me_var 0) (me_int)) (ms_one (ms_ret (me_var 4))))) (ms_nil)) (ms_cons (ms_put (me_op om_add (me_ix (me_var 0) (me_int)) (me_int)) (me_var 0) (me_int)) (ms_cons (ms_set (i := 2) sc__law_cast.nd rfl (by first | exact Or.inl rfl | exact Or.inr rfl) (me_op om_mod (me_callTy (cm_int) rfl T.z_int (by decide +kernel) (ma_cons (me_op om_add (me_ix (me_var 0) (me_int)) (me_op om_mul (me_int) (me_ix (me_var 0) (me_int)))) (ma_nil))) (me_int))) (ms_cons (ms_set (i := 3) sc__law_cast.nd rfl (by first | exact Or.inl rfl | exact Or.inr rfl) (me_op om_add (me_op om_mul (me_op om_mod (me_callTy (cm_int) rfl T.z_int (by decide +kernel) (ma_cons (me_op om_mul (me_var 2) (me_var 2)) (ma_nil))) (me_int)) (me_var 2)) (me_op om_mul (me_int) (me_ix (me_var 0) (me_int))))) (ms_one (ms_ret (me_op om_mod (me_callTy (cm_int) rfl T.z_int (by decide +kernel) (ma_cons (me_op om_div (me_op om_mod (me_callTy (cm_int) rfl T.z_int (by decide +kernel) (ma_cons (me_op om_add (me_var 3) (me_ix (me_var 0) (me_int))) (ma_nil))) (me_int)) (me_int)) (ma_nil))) (me_var 1)))))))
set_option maxHeartbeats 4000000 in
theorem ok__law_of_depth (T : Txt0 K mg) : P__law_of_depth P w K mg := by
  obtain ⟨fd, F⟩ := T.F__law_of_depth
  intro base hB
  refine fn_okC F (F.bindsN fun _ _ _ _ _ _ us hl => match us, hl with | [_], _ => by kernel_rfl) sc__law_of_depth fun cdv A outer s H E hcd hr => ?_
  have hu := hr.room.units
  exact ms_cons (ms_set (i := 1) sc__law_of_depth.nd rfl (by first | exact Or.inl rfl | exact Or.inr rfl) (me_lst (ma_cons (me_callB (cm_isE T.ef T.te) rfl T.z_isinstance (by decide +kernel) (ma_cons (me_var 0) (ma_cons (me_glob (v := .ref _) rfl T.gc_DepthError rfl (fun _ => .cls _)) (ma_nil)))) (ma_cons (me_callB (cm_isE T.ef T.te) rfl T.z_isinstance (by decide +kernel) (ma_cons (me_var 0) (ma_cons (me_glob (v := .ref _) rfl T.gc_InvalidProgram rfl (fun _ => .cls _)) (ma_nil)))) (ma_cons (me_callB (cm_isE T.ef T.te) rfl T.z_isinstance (by decide +kernel) (ma_cons (me_var 0) (ma_cons (me_glob (v := .ref _) rfl T.gc_InvalidRun rfl (fun _ => .cls _)) (ma_nil)))) (ma_nil)))))) (ms_cons (ms_set (i := 1) sc__law_of_depth.nd rfl (by first | exact Or.inl rfl | exact Or.inr rfl) (me_op om_add (me_var 1) (me_lst (ma_cons (me_callB (cm_isE T.ef T.te) rfl T.z_isinstance (by decide +kernel) (ma_cons (me_var 0) (ma_cons (me_glob (v := .ref _) rfl T.gc_InvalidLimit rfl (fun _ => .cls _)) (ma_nil)))) (ma_cons (me_callB (cm_isE T.ef T.te) rfl T.z_isinstance (by decide +kernel) (ma_cons (me_var 0) (ma_cons (me_glob (v := .ref _) rfl T.gc_InvalidLimits rfl (fun _ => .cls _)) (ma_nil)))) (ma_nil)))))) (ms_cons (ms_set (i := 1) sc__law_of_depth.nd rfl (by first | exact Or.inl rfl | exact Or.inr rfl) (me_op om_add (me_var 1) (me_lst (ma_cons (me_callB (cm_isE T.ef T.te) rfl T.z_isinstance (by decide +kernel) (ma_cons (me_var 0) (ma_cons (me_glob (v := .ref _) rfl T.gc_InvalidModes rfl (fun _ => .cls _)) (ma_nil)))) (ma_cons (me_callB (cm_isE T.ef T.te) rfl T.z_isinstance (by decide +kernel) (ma_cons (me_var 0) (ma_cons (me_glob (v := .ref _) rfl T.gc_InvalidRow rfl (fun _ => .cls _)) (ma_nil)))) (ma_cons (me_callB (cm_isE T.ef T.te) rfl T.z_isinstance (by decide +kernel) (ma_cons (me_var 0) (ma_cons (me_glob (v := .ref _) rfl T.gc_InvalidSign rfl (fun _ => .cls _)) (ma_nil)))) (ma_nil))))))) (ms_cons (ms_set (i := 1) sc__law_of_depth.nd rfl (by first | exact Or.inl rfl | exact Or.inr rfl) (me_op om_add (me_var 1) (me_lst (ma_cons (me_callB (cm_isE T.ef T.te) rfl T.z_isinstance (by decide +kernel) (ma_cons (me_var 0) (ma_cons (me_glob (v := .ref _) rfl T.gc_InvalidOperation rfl (fun _ => .cls _)) (ma_nil)))) (ma_cons (me_callB (cm_isE T.ef T.te) rfl T.z_isinstance (by decide +kernel) (ma_cons (me_var 0) (ma_cons (me_glob (v := .ref _) rfl T.gc_InvalidCommand rfl (fun _ => .cls _)) (ma_nil)))) (ma_nil)))))) (ms_cons (ms_set (i := 1) sc__law_of_depth.nd rfl (by first | exact Or.inl rfl | exact Or.inr rfl) (me_op om_add (me_var 1) (me_lst (ma_cons (me_callB (cm_isE T.ef T.te) rfl T.z_isinstance (by decide +kernel) (ma_cons (me_var 0) (ma_cons (me_glob (v := .ref _) rfl T.gc_ParseError rfl (fun _ => .cls _)) (ma_nil)))) (ma_nil))))) (ms_one (ms_ret (me_new (mn_lc [("_law_at", 2)] rfl sc__law_of_depth.nd (mi_range1 rfl T.z_range (ma_cons (me_int) (ma_nil)) (ln_cons (ln_nil))) (blkOk_by (N := N__law_of_depth) (sc := defScope s__law_of_depth) (by decide +kernel)) (fun _ _ _ _ _ => mg_name (i := 2) sc__law_of_depth.nd rfl (by first | exact Or.inl rfl | exact Or.inr rfl)) (fun _ _ _ _ _ => mts_one (mt_val (me_ix (me_var 1) (me_var 2)))) (fun _ _ _ _ _ => me_var 2)))))))))
set_option maxHeartbeats 4000000 in
theorem ok__law_of_others (T : Txt0 K mg) : P__law_of_others P w K mg := by
  obtain ⟨fd, F⟩ := T.F__law_of_others
  intro base hB
  refine fn_okC F (F.bindsN fun _ _ _ _ _ _ us hl => match us, hl with | [_], _ => by kernel_rfl) sc__law_of_others fun cdv A outer s H E hcd hr => ?_
  have hu := hr.room.units
  exact ms_cons (ms_set (i := 1) sc__law_of_others.nd rfl (by first | exact Or.inl rfl | exact Or.inr rfl) (me_op om_add (me_op om_mul (me_lst (ma_cons (me_str) (ma_nil))) (me_callTy (cm_int) rfl T.z_int (by decide +kernel) (ma_cons (me_callB (cm_isE T.ef T.te) rfl T.z_isinstance (by decide +kernel) (ma_cons (me_var 0) (ma_cons (me_glob (v := .ref _) rfl T.gc_UnknownName rfl (fun _ => .cls _)) (ma_nil)))) (ma_nil)))) (me_op om_mul (me_lst (ma_cons (me_str) (ma_nil))) (me_callTy (cm_int) rfl T.z_int (by decide +kernel) (ma_cons (me_callB (cm_isE T.ef T.te) rfl T.z_isinstance (by decide +kernel) (ma_cons (me_var 0) (ma_cons (me_glob (v := .ref _) rfl T.gc_UnknownSite rfl (fun _ => .cls _)) (ma_nil)))) (ma_nil)))))) (ms_cons (ms_set (i := 1) sc__law_of_others.nd rfl (by first | exact Or.inl rfl | exact Or.inr rfl) (me_op om_add (me_var 1) (me_op om_mul (me_lst (ma_cons (me_str) (ma_nil))) (me_callTy (cm_int) rfl T.z_int (by decide +kernel) (ma_cons (me_callB (cm_isE T.ef T.te) rfl T.z_isinstance (by decide +kernel) (ma_cons (me_var 0) (ma_cons (me_glob (v := .ref _) rfl T.gc_InvalidNumber rfl (fun _ => .cls _)) (ma_nil)))) (ma_nil)))))) (ms_cons (ms_set (i := 1) sc__law_of_others.nd rfl (by first | exact Or.inl rfl | exact Or.inr rfl) (me_op om_add (me_var 1) (me_op om_mul (me_lst (ma_cons (me_str) (ma_nil))) (me_callTy (cm_int) rfl T.z_int (by decide +kernel) (ma_cons (me_callB (cm_isE T.ef T.te) rfl T.z_isinstance (by decide +kernel) (ma_cons (me_var 0) (ma_cons (me_glob (v := .ref _) rfl T.gc_NothingToUndo rfl (fun _ => .cls _)) (ma_nil)))) (ma_nil)))))) (ms_cons (ms_set (i := 1) sc__law_of_others.nd rfl (by first | exact Or.inl rfl | exact Or.inr rfl) (me_op om_add (me_op om_add (me_var 1) (me_op om_mul (me_lst (ma_cons (me_str) (ma_nil))) (me_callTy (cm_int) rfl T.z_int (by decide +kernel) (ma_cons (me_callB (cm_isE T.ef T.te) rfl T.z_isinstance (by decide +kernel) (ma_cons (me_var 0) (ma_cons (me_glob (v := .ref _) rfl T.gc_Refused rfl (fun _ => .cls _)) (ma_nil)))) (ma_nil))))) (me_op om_mul (me_lst (ma_cons (me_str) (ma_nil))) (me_callTy (cm_int) rfl T.z_int (by decide +kernel) (ma_cons (me_callB (cm_isE T.ef T.te) rfl T.z_isinstance (by decide +kernel) (ma_cons (me_var 0) (ma_cons (me_glob (v := .ref _) rfl T.gc_TooMany rfl (fun _ => .cls _)) (ma_nil)))) (ma_nil)))))) (ms_cons (ms_set (i := 1) sc__law_of_others.nd rfl (by first | exact Or.inl rfl | exact Or.inr rfl) (me_op om_add (me_op om_add (me_var 1) (me_op om_mul (me_lst (ma_cons (me_str) (ma_nil))) (me_callTy (cm_int) rfl T.z_int (by decide +kernel) (ma_cons (me_callB (cm_isE T.ef T.te) rfl T.z_isinstance (by decide +kernel) (ma_cons (me_var 0) (ma_cons (me_ty rfl T.z_ValueError (by decide +kernel)) (ma_nil)))) (ma_nil))))) (me_op om_mul (me_lst (ma_cons (me_str) (ma_nil))) (me_callTy (cm_int) rfl T.z_int (by decide +kernel) (ma_cons (me_callB (cm_isE T.ef T.te) rfl T.z_isinstance (by decide +kernel) (ma_cons (me_var 0) (ma_cons (me_ty rfl T.z_KeyError (by decide +kernel)) (ma_nil)))) (ma_nil)))))) (ms_cons (ms_set (i := 1) sc__law_of_others.nd rfl (by first | exact Or.inl rfl | exact Or.inr rfl) (me_op om_add (me_var 1) (me_op om_mul (me_lst (ma_cons (me_str) (ma_nil))) (me_callTy (cm_int) rfl T.z_int (by decide +kernel) (ma_cons (me_callB (cm_isE T.ef T.te) rfl T.z_isinstance (by decide +kernel) (ma_cons (me_var 0) (ma_cons (me_ty rfl T.z_IndexError (by decide +kernel)) (ma_nil)))) (ma_nil)))))) (ms_cons (ms_set (i := 1) sc__law_of_others.nd rfl (by first | exact Or.inl rfl | exact Or.inr rfl) (me_op om_add (me_var 1) (me_op om_mul (me_lst (ma_cons (me_str) (ma_nil))) (me_callTy (cm_int) rfl T.z_int (by decide +kernel) (ma_cons (me_callB (cm_isE T.ef T.te) rfl T.z_isinstance (by decide +kernel) (ma_cons (me_var 0) (ma_cons (me_ty rfl T.z_LookupError (by decide +kernel)) (ma_nil)))) (ma_nil)))))) (ms_cons (ms_set (i := 1) sc__law_of_others.nd rfl (by first | exact Or.inl rfl | exact Or.inr rfl) (me_op om_add (me_var 1) (me_op om_mul (me_lst (ma_cons (me_str) (ma_nil))) (me_callTy (cm_int) rfl T.z_int (by decide +kernel) (ma_cons (me_callB (cm_isE T.ef T.te) rfl T.z_isinstance (by decide +kernel) (ma_cons (me_var 0) (ma_cons (me_ty rfl T.z_ArithmeticError (by decide +kernel)) (ma_nil)))) (ma_nil)))))) (ms_one (ms_ret (me_op om_add (me_var 1) (me_op om_mul (me_lst (ma_cons (me_str) (ma_nil))) (me_callTy (cm_int) rfl T.z_int (by decide +kernel) (ma_cons (me_callB (cm_isE T.ef T.te) rfl T.z_isinstance (by decide +kernel) (ma_cons (me_var 0) (ma_cons (me_ty rfl T.z_OverflowError (by decide +kernel)) (ma_nil)))) (ma_nil))))))))))))))
set_option maxHeartbeats 4000000 in
theorem ok__law_plain_ones (T : Txt0 K mg) : P__law_plain_ones P w K mg := by
  obtain ⟨fd, F⟩ := T.F__law_plain_ones
  intro base hB
  refine fn_okC F (F.bindsN fun _ _ _ _ _ _ us hl => match us, hl with | [_], _ => by kernel_rfl) sc__law_plain_ones fun cdv A outer s H E hcd hr => ?_
  have hu := hr.room.units
  exact ms_cons (ms_set (i := 1) sc__law_plain_ones.nd rfl (by first | exact Or.inl rfl | exact Or.inr rfl) (me_lst (ma_cons (me_exnX T.mx_DepthError T.gc_DepthError rfl (me_var 0)) (ma_cons (me_exnX T.mx_InvalidProgram T.gc_InvalidProgram rfl (me_var 0)) (ma_cons (me_exnX T.mx_InvalidRun T.gc_InvalidRun rfl (me_var 0)) (ma_cons (me_exnX T.mx_InvalidLimit T.gc_InvalidLimit rfl (me_var 0)) (ma_cons (me_exnX T.mx_InvalidLimits T.gc_InvalidLimits rfl (me_var 0)) (ma_nil)))))))) (ms_cons (ms_set (i := 1) sc__law_plain_ones.nd rfl (by first | exact Or.inl rfl | exact Or.inr rfl) (me_op om_add (me_var 1) (me_lst (ma_cons (me_exnX T.mx_InvalidModes T.gc_InvalidModes rfl (me_var 0)) (ma_cons (me_exnX T.mx_InvalidRow T.gc_InvalidRow rfl (me_var 0)) (ma_cons (me_exnX T.mx_InvalidSign T.gc_InvalidSign rfl (me_var 0)) (ma_nil))))))) (ms_one (ms_ret (me_op om_add (me_var 1) (me_lst (ma_cons (me_exnX T.mx_InvalidOperation T.gc_InvalidOperation rfl (me_var 0)) (ma_cons (me_exnX T.mx_InvalidCommand T.gc_InvalidCommand rfl (me_var 0)) (ma_nil))))))))
set_option maxHeartbeats 4000000 in
theorem ok__law_pick (T : Txt0 K mg) (D__law_cast : P__law_cast P w K mg) : P__law_pick P w K mg := by
  obtain ⟨fd, F⟩ := T.F__law_pick
  intro base hB
  refine fn_okC F (F.bindsN fun _ _ _ _ _ _ us hl => match us, hl with | [_, _], _ => by kernel_rfl) sc__law_pick fun cdv A outer s H E hcd hr => ?_
  have hu := hr.room.units
  exact ms_one (ms_ret (me_ix (me_var 1) (me_call (D__law_cast base hB) (by first | exact erOk_def | exact erOk0 | exact erOk_lam | assumption) (hr.mono (by decide)) rfl T.g__law_cast T.kp__law_cast (ma_cons (me_var 0) (ma_cons (me_callB (cm_len) rfl T.z_len (by decide +kernel) (ma_cons (me_var 1) (ma_nil))) (ma_nil))) (ln_cons (ln_cons (ln_nil))))))
set_option maxHeartbeats 4000000 in
theorem ok__law_right (T : Txt0 K mg) (D_ParseError___init__ : P_ParseError___init__ P w K mg) (D_UnknownName___init__ : P_UnknownName___init__ P w K mg) (D_UnknownSite___init__ : P_UnknownSite___init__ P w K mg) (D_InvalidNumber___init__ : P_InvalidNumber___init__ P w K mg) (D_NothingToUndo___init__ : P_NothingToUndo___init__ P w K mg) (D_Refused___init__ : P_Refused___init__ P w K mg) (D_TooMany___init__ : P_TooMany___init__ P w K mg) (D__law_of_depth : P__law_of_depth P w K mg) (D__law_of_others : P__law_of_others P w K mg) (D__law_plain_ones : P__law_plain_ones P w K mg) (D__law_pick : P__law_pick P w K mg) : P__law_right P w K mg := by
  obtain ⟨fd, F⟩ := T.F__law_right
  intro base hB
  refine fn_okC F (F.bindsN fun _ _ _ _ _ _ us hl => match us, hl with | [_], _ => by kernel_rfl) sc__law_right fun cdv A outer s H E hcd hr => ?_
  have hu := hr.room.units
  exact ms_cons (ms_set (i := 1) sc__law_right.nd rfl (by first | exact Or.inl rfl | exact Or.inr rfl) (me_lst (ma_cons (me_int) (ma_cons (me_int) (ma_cons (me_str) (ma_cons (me_str) (ma_cons (me_tup (ma_cons (me_str) (ma_cons (me_int) (ma_nil)))) (ma_cons (me_non) (ma_cons (me_un um_neg (me_int)) (ma_cons (me_op om_pow (me_int) (me_int)) (ma_cons (me_lst (ma_cons (me_int) (ma_nil))) (ma_cons (me_dnew) (ma_cons (me_bl) (ma_cons (me_tup (ma_nil)) (ma_cons (me_str) (ma_nil)))))))))))))))) (ms_cons (ms_setLcE (i := 2) (k := eNew) tNew_fro [("_law_turn", 14)] rfl sc__law_right.nd rfl rfl (sw_true rfl rfl rfl (by decide +kernel)) (mi_range1 rfl T.z_range (ma_cons (me_int) (ma_nil)) (ln_cons (ln_nil))) (blkOk_by (N := N__law_right) (sc := defScope s__law_right) (by decide +kernel)) (fun _ _ _ _ _ => mg_name (i := 14) sc__law_right.nd rfl (by first | exact Or.inl rfl | exact Or.inr rfl)) (fun _ _ _ _ _ => mts_nil) (fun _ _ _ _ _ => me_call (D__law_pick base hB) (by first | exact erOk_def | exact erOk0 | exact erOk_lam | assumption) (hr.mono (by decide)) rfl T.g__law_pick T.kp__law_pick (ma_cons (me_var 0) (ma_cons (me_var 1) (ma_nil))) (ln_cons (ln_cons (ln_nil))))) (ms_cons (ms_set (i := 3) sc__law_right.nd rfl (by first | exact Or.inl rfl | exact Or.inr rfl) (me_call (D__law_plain_ones base hB) (by first | exact erOk_def | exact erOk0 | exact erOk_lam | assumption) (hr.mono (by decide)) rfl T.g__law_plain_ones T.kp__law_plain_ones (ma_cons (me_call (D__law_pick base hB) (by first | exact erOk_def | exact erOk0 | exact erOk_lam | assumption) (hr.mono (by decide)) rfl T.g__law_pick T.kp__law_pick (ma_cons (me_var 0) (ma_cons (me_lst (ma_cons (me_str) (ma_cons (me_str) (ma_cons (me_str) (ma_nil))))) (ma_nil))) (ln_cons (ln_cons (ln_nil)))) (ma_nil)) (ln_cons (ln_nil)))) (ms_cons (ms_if (mt_cmp (om_neX hu) (me_new (mn_lc [("_law_error", 15)] rfl sc__law_right.nd (mi_any (me_var 3)) (blkOk_by (N := N__law_right) (sc := defScope s__law_right) (by decide +kernel)) (fun _ _ _ _ _ => mg_name (i := 15) sc__law_right.nd rfl (by first | exact Or.inl rfl | exact Or.inr rfl)) (fun _ _ _ _ _ => mts_nil) (fun _ _ _ _ _ => me_call (D__law_of_depth base hB) (by first | exact erOk_def | exact erOk0 | exact erOk_lam | assumption) (hr.mono (by decide)) rfl T.g__law_of_depth T.kp__law_of_depth (ma_cons (me_var 15) (ma_nil)) (ln_cons (ln_nil))))) (me_op om_add (me_lst (ma_cons (me_lst (ma_cons (me_int) (ma_nil))) (ma_nil))) (me_new (mn_lc [("_law_at", 16)] rfl sc__law_right.nd (mi_range2 rfl T.z_range (ma_cons (me_int) (ma_cons (me_int) (ma_nil))) (ln_cons (ln_cons (ln_nil)))) (blkOk_by (N := N__law_right) (sc := defScope s__law_right) (by decide +kernel)) (fun _ _ _ _ _ => mg_name (i := 16) sc__law_right.nd rfl (by first | exact Or.inl rfl | exact Or.inr rfl)) (fun _ _ _ _ _ => mts_nil) (fun _ _ _ _ _ => me_lst (ma_cons (me_int) (ma_cons (me_var 16) (ma_nil)))))))) (ms_one (ms_ret (me_bl))) (ms_nil)) (ms_cons (ms_if (mt_cmp (om_neX hu) (me_new (mn_lc [("_law_error", 15)] rfl sc__law_right.nd (mi_any (me_var 3)) (blkOk_by (N := N__law_right) (sc := defScope s__law_right) (by decide +kernel)) (fun _ _ _ _ _ => mg_name (i := 15) sc__law_right.nd rfl (by first | exact Or.inl rfl | exact Or.inr rfl)) (fun _ _ _ _ _ => mts_nil) (fun _ _ _ _ _ => me_call (D__law_of_others base hB) (by first | exact erOk_def | exact erOk0 | exact erOk_lam | assumption) (hr.mono (by decide)) rfl T.g__law_of_others T.kp__law_of_others (ma_cons (me_var 15) (ma_nil)) (ln_cons (ln_nil))))) (me_op om_mul (me_lst (ma_cons (me_lst (ma_cons (me_str) (ma_nil))) (ma_nil))) (me_int))) (ms_one (ms_ret (me_bl))) (ms_nil)) (ms_cons (ms_par (i := 8) (j := 9) rfl sc__law_right.nd rfl rfl (by decide) rfl rfl (ma_cons (me_exkX T.kx_ParseError (D_ParseError___init__ base hB) (hr.mono (by decide)) T.gc_ParseError rfl (me_ix (me_var 2) (me_int))) (ma_cons (me_exkX T.kx_UnknownName (D_UnknownName___init__ base hB) (hr.mono (by decide)) T.gc_UnknownName rfl (me_ix (me_var 2) (me_int))) (ma_nil)))) (ms_cons (ms_set (i := 4) sc__law_right.nd rfl (by first | exact Or.inl rfl | exact Or.inr rfl) (me_exkX T.kx_UnknownSite (D_UnknownSite___init__ base hB) (hr.mono (by decide)) T.gc_UnknownSite rfl (me_ix (me_var 2) (me_int)))) (ms_cons (ms_par (i := 10) (j := 11) rfl sc__law_right.nd rfl rfl (by decide) rfl rfl (ma_cons (me_exkX T.kx_InvalidNumber (D_InvalidNumber___init__ base hB) (hr.mono (by decide)) T.gc_InvalidNumber rfl (me_ix (me_var 2) (me_int))) (ma_cons (me_exkX T.kx_NothingToUndo (D_NothingToUndo___init__ base hB) (hr.mono (by decide)) T.gc_NothingToUndo rfl (me_ix (me_var 2) (me_int))) (ma_nil)))) (ms_cons (ms_par (i := 12) (j := 13) rfl sc__law_right.nd rfl rfl (by decide) rfl rfl (ma_cons (me_exkX T.kx_Refused (D_Refused___init__ base hB) (hr.mono (by decide)) T.gc_Refused rfl (me_ix (me_var 2) (me_int))) (ma_cons (me_exkX T.kx_TooMany (D_TooMany___init__ base hB) (hr.mono (by decide)) T.gc_TooMany rfl (me_ix (me_var 2) (me_int))) (ma_nil)))) (ms_cons (ms_set (i := 5) sc__law_right.nd rfl (by first | exact Or.inl rfl | exact Or.inr rfl) (me_lst (ma_cons (me_xf T.xf_line_ParseError (me_var 8)) (ma_cons (me_xf T.xf_name_Refused_UnknownName (me_var 9)) (ma_cons (me_xf T.xf_site_UnknownSite (me_var 4)) (ma_cons (me_xf T.xf_value_InvalidNumber (me_var 10)) (ma_cons (me_xf T.xf_many_NothingToUndo (me_var 11)) (ma_cons (me_xf T.xf_name_Refused_UnknownName (me_var 12)) (ma_cons (me_xf T.xf_limit_TooMany (me_var 13)) (ma_nil)))))))))) (ms_cons (ms_if (mt_w (mw_or (mt_cmp (om_neX hu) (me_callB (cm_reprEX hr) rfl T.z_repr (by decide +kernel) (ma_cons (me_var 5) (ma_nil))) (me_callB (cm_reprEX hr) rfl T.z_repr (by decide +kernel) (ma_cons (me_var 2) (ma_nil)))) (mw_or1 (mt_cmp (om_neX hu) (me_call (D__law_of_depth base hB) (by first | exact erOk_def | exact erOk0 | exact erOk_lam | assumption) (hr.mono (by decide)) rfl T.g__law_of_depth T.kp__law_of_depth (ma_cons (me_var 8) (ma_nil)) (ln_cons (ln_nil))) (me_lst (ma_cons (me_int) (ma_cons (me_int) (ma_nil)))))))) (ms_one (ms_ret (me_bl))) (ms_nil)) (ms_cons (ms_if (mt_cmp (om_neX hu) (me_call (D__law_of_others base hB) (by first | exact erOk_def | exact erOk0 | exact erOk_lam | assumption) (hr.mono (by decide)) rfl T.g__law_of_others T.kp__law_of_others (ma_cons (me_var 8) (ma_nil)) (ln_cons (ln_nil))) (me_lst (ma_cons (me_str) (ma_nil)))) (ms_one (ms_ret (me_bl))) (ms_nil)) (ms_cons (ms_set (i := 6) sc__law_right.nd rfl (by first | exact Or.inl rfl | exact Or.inr rfl) (me_lst (ma_cons (me_var 9) (ma_cons (me_var 4) (ma_cons (me_var 10) (ma_cons (me_var 11) (ma_cons (me_var 12) (ma_cons (me_var 13) (ma_nil))))))))) (ms_cons (ms_if (mt_cmp (om_neX hu) (me_new (mn_lc [("_law_error", 15)] rfl sc__law_right.nd (mi_any (me_var 6)) (blkOk_by (N := N__law_right) (sc := defScope s__law_right) (by decide +kernel)) (fun _ _ _ _ _ => mg_name (i := 15) sc__law_right.nd rfl (by first | exact Or.inl rfl | exact Or.inr rfl)) (fun _ _ _ _ _ => mts_nil) (fun _ _ _ _ _ => me_call (D__law_of_depth base hB) (by first | exact erOk_def | exact erOk0 | exact erOk_lam | assumption) (hr.mono (by decide)) rfl T.g__law_of_depth T.kp__law_of_depth (ma_cons (me_var 15) (ma_nil)) (ln_cons (ln_nil))))) (me_op om_mul (me_lst (ma_cons (me_lst (ma_nil)) (ma_nil))) (me_int))) (ms_one (ms_ret (me_bl))) (ms_nil)) (ms_cons (ms_set (i := 7) sc__law_right.nd rfl (by first | exact Or.inl rfl | exact Or.inr rfl) (me_lst (ma_cons (me_lst (ma_cons (me_str) (ma_cons (me_str) (ma_cons (me_str) (ma_nil))))) (ma_cons (me_lst (ma_cons (me_str) (ma_cons (me_str) (ma_cons (me_str) (ma_nil))))) (ma_cons (me_lst (ma_cons (me_str) (ma_cons (me_str) (ma_cons (me_str) (ma_nil))))) (ma_cons (me_lst (ma_cons (me_str) (ma_cons (me_str) (ma_nil)))) (ma_nil))))))) (ms_cons (ms_set (i := 7) sc__law_right.nd rfl (by first | exact Or.inl rfl | exact Or.inr rfl) (me_op om_add (me_var 7) (me_lst (ma_cons (me_lst (ma_cons (me_str) (ma_cons (me_str) (ma_nil)))) (ma_cons (me_lst (ma_cons (me_str) (ma_cons (me_str) (ma_cons (me_str) (ma_nil))))) (ma_nil)))))) (ms_one (ms_ret (me_cmp (om_eqX hu) (me_new (mn_lc [("_law_error", 15)] rfl sc__law_right.nd (mi_any (me_var 6)) (blkOk_by (N := N__law_right) (sc := defScope s__law_right) (by decide +kernel)) (fun _ _ _ _ _ => mg_name (i := 15) sc__law_right.nd rfl (by first | exact Or.inl rfl | exact Or.inr rfl)) (fun _ _ _ _ _ => mts_nil) (fun _ _ _ _ _ => me_call (D__law_of_others base hB) (by first | exact erOk_def | exact erOk0 | exact erOk_lam | assumption) (hr.mono (by decide)) rfl T.g__law_of_others T.kp__law_of_others (ma_cons (me_var 15) (ma_nil)) (ln_cons (ln_nil))))) (me_var 7)))))))))))))))))))
set_option maxHeartbeats 4000000 in
theorem ok_law (T : Txt0 K mg) (D__law_numbers : P__law_numbers P w K mg) (D__law_right : P__law_right P w K mg) : P_law P w K mg := by
  obtain ⟨fd, F⟩ := T.F_law
  intro base hB
  refine fn_okC F (F.bindsN fun _ _ _ _ _ _ us hl => match us, hl with | [_], _ => by kernel_rfl) sc_law fun cdv A outer s H E hcd hr => ?_
  have hu := hr.room.units
  exact ms_cons (ms_for (by first | exact passes_of rfl | assumption) rfl (mi_range1 rfl T.z_range (ma_cons (me_callB (cm_max rfl) rfl T.z_max (by decide +kernel) (ma_cons (me_int) (ma_cons (me_callB (cm_minL rfl) rfl T.z_min (by decide +kernel) (ma_cons (me_int) (ma_cons (me_callB (cm_len) rfl T.z_len (by decide +kernel) (ma_cons (me_var 0) (ma_nil))) (ma_nil)))) (ma_nil)))) (ma_nil)) (ln_cons (ln_nil))) (mg_name (i := 1) sc_law.nd rfl (by first | exact Or.inl rfl | exact Or.inr rfl)) (ms_one (ms_if (mt_not (mt_val (me_call (D__law_right base hB) (by first | exact erOk_def | exact erOk0 | exact erOk_lam | assumption) (hr.mono (by decide)) rfl T.g__law_right T.kp__law_right (ma_cons (me_call (D__law_numbers base hB) (by first | exact erOk_def | exact erOk0 | exact erOk_lam | assumption) (hr.mono (by decide)) rfl T.g__law_numbers T.kp__law_numbers (ma_cons (me_var 0) (ma_cons (me_var 1) (ma_nil))) (ln_cons (ln_cons (ln_nil)))) (ma_nil)) (ln_cons (ln_nil))))) (ms_one (ms_ret (me_bl))) (ms_nil)))) (ms_one (ms_ret (me_bl)))
end
end K00
namespace K00
open PySem PySem.Spec PyProof.Rows L2 Dz
theorem cast_wp {n : Nat} {S : Sto} {t : Int} (h : Die n S) (h0 : 0 < t) (h1 : t < 1073741824) : wp (f__law_cast [.c n, .d (.int t)]) S fun x S' => ∃ r, x = .d (.int r) ∧ 0 ≤ r ∧ r < t ∧ Drw n S S' := by
  obtain ⟨a, b, c, h⟩ := h
  have hl : n < S.length := (List.getElem?_eq_some_iff.mp h).1
  apply wp_fn
  unfold b__law_cast
  (try (simp only [Dz.wp_noE, Dz.noE_pur, Dz.w_var, Dz.w_c, Dz.w_op, Dz.w_ix, Dz.w_un, Dz.w_test, Dz.w_asB, Dz.w_not, Dz.w_and, Dz.w_or, Dz.w_if, Dz.w_sif, Dz.w_seq, Dz.after_nx, Dz.after_rt, Dz.w_next, Dz.w_ret, Dz.w_set, Dz.w_drop, Dz.w_put, Dz.w_nil, Dz.w_cons, Dz.w_cb, Dz.w_call, Dz.w_tup, Dz.w_lst, Dz.w_cell, Dz.w_for, Dz.w_of, Dz.w_rg, Dz.w_new, Dz.w_newC, Dz.w_lc, Dz.w_join, Dz.w_isS, Dz.w_chain, Dz.w_eand, Dz.w_eor, Dz.w_enot, Dz.w_ltS, Dz.w_leS, Dz.w_is, Dz.w_isnot, Dz.w_inS, Dz.w_rpr, Dz.w_itS, Dz.w_itL, Dz.w_itLs, Dz.w_itT, Dz.w_add, Dz.w_sub, Dz.w_neg, Dz.w_lt, Dz.w_le, Dz.w_gt, Dz.w_ge, Dz.w_int, Dz.w_intb, Dz.w_abs, Dz.w_max, Dz.w_min, Dz.w_lenL, Dz.w_lenT, Dz.w_lenR, Dz.wp_pur, Dz.startE, Dz.w_dtup, Dz.w_dlst, Dz.asDs_nil, Dz.asDs_cons, Dz.w_some, Dz.w_kTup, Dz.w_kLst, Dz.w_addL, Dz.w_addT, Dz.w_sl, Dz.w_oNone, Dz.w_oSome, Dz.w_asI, Dz.w_slL, Dz.w_slT, Dz.w_zp, Dz.w_itZL, Dz.w_itZT, Dz.w_rg3, Dz.w_par, Dz.w_asg, Dz.w_asD, Dz.w_fld, Dz.w_sfd, Dz.w_mk, Dz.w_pro, Dz.w_isI, Dz.w_met, Dz.w_ncb, Dz.w_tupL, Dz.w_tupT, Dz.w_listL, Dz.w_listT, Dz.w_sorted, Dz.w_minI, Dz.w_itA, Dz.w_itAt, Dz.w_itAs, Dz.w_itAz, Dz.w_inT, Dz.w_inL, Dz.w_niT, Dz.w_inD, Dz.w_eqS, Dz.w_neS, Dz.w_eqI, Dz.w_neI, Dz.w_eqB, Dz.w_neB, Dz.w_eqL, Dz.w_neL, Dz.w_eqT, Dz.w_neT, Dz.dunNe_str, Dz.dunNe_bl, Dz.dunNe_int, Dz.dunNe_lst, Dz.dunNe_tup, Dz.dunNe_non, Dz.dunEq_str, Dz.dunEq_bl, Dz.dunEq_int, Dz.dunEq_lst, Dz.dunEq_tup, Dz.dunEq_non, Dz.dunIn_ins, Dz.tBoolX_ins, Dz.w_notB, Dz.w_isB, Dz.wp_bnd, List.map_cons, List.map_nil, List.length_cons, List.length_nil, List.replicate, List.cons_append, List.nil_append, List.append_nil, List.getElem?_cons_zero, List.getElem?_cons_succ, List.set_cons_zero, List.set_cons_succ, Nat.reduceAdd, Nat.reduceSub, Nat.zero_add, Nat.sub_zero, Bool.not_true, Bool.not_false, if_true, if_false, Bool.false_eq_true, reduceIte, decide_eq_true_eq, Option.map_some, Nat.reduceLeDiff]))
  simp only [w_die0 h]
  (try (simp only [Dz.wp_noE, Dz.noE_pur, Dz.w_var, Dz.w_c, Dz.w_op, Dz.w_ix, Dz.w_un, Dz.w_test, Dz.w_asB, Dz.w_not, Dz.w_and, Dz.w_or, Dz.w_if, Dz.w_sif, Dz.w_seq, Dz.after_nx, Dz.after_rt, Dz.w_next, Dz.w_ret, Dz.w_set, Dz.w_drop, Dz.w_put, Dz.w_nil, Dz.w_cons, Dz.w_cb, Dz.w_call, Dz.w_tup, Dz.w_lst, Dz.w_cell, Dz.w_for, Dz.w_of, Dz.w_rg, Dz.w_new, Dz.w_newC, Dz.w_lc, Dz.w_join, Dz.w_isS, Dz.w_chain, Dz.w_eand, Dz.w_eor, Dz.w_enot, Dz.w_ltS, Dz.w_leS, Dz.w_is, Dz.w_isnot, Dz.w_inS, Dz.w_rpr, Dz.w_itS, Dz.w_itL, Dz.w_itLs, Dz.w_itT, Dz.w_add, Dz.w_sub, Dz.w_neg, Dz.w_lt, Dz.w_le, Dz.w_gt, Dz.w_ge, Dz.w_int, Dz.w_intb, Dz.w_abs, Dz.w_max, Dz.w_min, Dz.w_lenL, Dz.w_lenT, Dz.w_lenR, Dz.wp_pur, Dz.startE, Dz.w_dtup, Dz.w_dlst, Dz.asDs_nil, Dz.asDs_cons, Dz.w_some, Dz.w_kTup, Dz.w_kLst, Dz.w_addL, Dz.w_addT, Dz.w_sl, Dz.w_oNone, Dz.w_oSome, Dz.w_asI, Dz.w_slL, Dz.w_slT, Dz.w_zp, Dz.w_itZL, Dz.w_itZT, Dz.w_rg3, Dz.w_par, Dz.w_asg, Dz.w_asD, Dz.w_fld, Dz.w_sfd, Dz.w_mk, Dz.w_pro, Dz.w_isI, Dz.w_met, Dz.w_ncb, Dz.w_tupL, Dz.w_tupT, Dz.w_listL, Dz.w_listT, Dz.w_sorted, Dz.w_minI, Dz.w_itA, Dz.w_itAt, Dz.w_itAs, Dz.w_itAz, Dz.w_inT, Dz.w_inL, Dz.w_niT, Dz.w_inD, Dz.w_eqS, Dz.w_neS, Dz.w_eqI, Dz.w_neI, Dz.w_eqB, Dz.w_neB, Dz.w_eqL, Dz.w_neL, Dz.w_eqT, Dz.w_neT, Dz.dunNe_str, Dz.dunNe_bl, Dz.dunNe_int, Dz.dunNe_lst, Dz.dunNe_tup, Dz.dunNe_non, Dz.dunEq_str, Dz.dunEq_bl, Dz.dunEq_int, Dz.dunEq_lst, Dz.dunEq_tup, Dz.dunEq_non, Dz.dunIn_ins, Dz.tBoolX_ins, Dz.w_notB, Dz.w_isB, Dz.wp_bnd, List.map_cons, List.map_nil, List.length_cons, List.length_nil, List.replicate, List.cons_append, List.nil_append, List.append_nil, List.getElem?_cons_zero, List.getElem?_cons_succ, List.set_cons_zero, List.set_cons_succ, Nat.reduceAdd, Nat.reduceSub, Nat.zero_add, Nat.sub_zero, Bool.not_true, Bool.not_false, if_true, if_false, Bool.false_eq_true, reduceIte, decide_eq_true_eq, Option.map_some, Nat.reduceLeDiff]))
  split
  · simp only [w_die0 h, w_int, w_mod h0, w_div ⟨h0, h1⟩, w_put0 h]
    refine ⟨_, rfl, _, rfl, Int.emod_nonneg _ (by omega), Int.emod_lt_of_pos _ h0, ?_⟩
    have d : Drw n S (S.set n (.lst [.int (a / t), .int b, .int c])) := ⟨_, _, _, rfl⟩
    rw [d.take]
    exact d
  · simp only [w_die2 h, w_add, w_put2 h]
    have h2 : (S.set n (.lst [.int a, .int b, .int (c + 1)]))[n]? = some (.lst [.int a, .int b, .int (c + 1)]) := List.getElem?_set_self hl
    have d : Drw n S (S.set n (.lst [.int a, .int b, .int (c + 1)])) := ⟨_, _, _, rfl⟩
    rw [w_die1 h2, w_die2 h2, w_mul_l (by decide), w_add, w_int, w_mod (by decide)]
    generalize hx : (b + 776531491 * (c + 1)) % 2305843009213693907 = x
    have hx0 : 0 ≤ x := by rw [← hx]; exact Int.emod_nonneg _ (by decide)
    have hx1 : x < 2305843009213693907 := by rw [← hx]; exact Int.emod_lt_of_pos _ (by decide)
    rw [w_mul_l ⟨by omega, by omega⟩, w_int, w_mod (by decide)]
    generalize hy : x * x % 1152921504606846619 = y
    have hy0 : 0 ≤ y := by rw [← hy]; exact Int.emod_nonneg _ (by decide)
    have hy1 : y < 1152921504606846619 := by rw [← hy]; exact Int.emod_lt_of_pos _ (by decide)
    rw [w_mul_l ⟨by omega, by omega⟩, w_die2 h2, w_mul_l (by decide), w_add, w_die1 h2, w_add, w_int, w_mod (by decide), w_div (by decide), w_int, w_mod h0]
    refine ⟨_, rfl, _, rfl, Int.emod_nonneg _ (by omega), Int.emod_lt_of_pos _ h0, ?_⟩
    rw [d.take]
    exact d
theorem pick_wp {n : Nat} {S : Sto} {it : D} (h : Die n S) (hk : ∃ zs, it = .lst zs ∨ it = .tup zs ∨ ∃ z : Str, it = .str z ∧ z.length ≤ 1000) (h0 : 0 < (itemsOf it).length) (h1 : (itemsOf it).length < 1000000) : wp (f__law_pick [.c n, .d it]) S fun x S' => ∃ y, x = .d y ∧ y ∈ itemsOf it ∧ Drw n S S' := by
  apply wp_fn
  unfold b__law_pick
  (try (simp only [Dz.wp_noE, Dz.noE_pur, Dz.w_var, Dz.w_c, Dz.w_op, Dz.w_ix, Dz.w_un, Dz.w_test, Dz.w_asB, Dz.w_not, Dz.w_and, Dz.w_or, Dz.w_if, Dz.w_sif, Dz.w_seq, Dz.after_nx, Dz.after_rt, Dz.w_next, Dz.w_ret, Dz.w_set, Dz.w_drop, Dz.w_put, Dz.w_nil, Dz.w_cons, Dz.w_cb, Dz.w_call, Dz.w_tup, Dz.w_lst, Dz.w_cell, Dz.w_for, Dz.w_of, Dz.w_rg, Dz.w_new, Dz.w_newC, Dz.w_lc, Dz.w_join, Dz.w_isS, Dz.w_chain, Dz.w_eand, Dz.w_eor, Dz.w_enot, Dz.w_ltS, Dz.w_leS, Dz.w_is, Dz.w_isnot, Dz.w_inS, Dz.w_rpr, Dz.w_itS, Dz.w_itL, Dz.w_itLs, Dz.w_itT, Dz.w_add, Dz.w_sub, Dz.w_neg, Dz.w_lt, Dz.w_le, Dz.w_gt, Dz.w_ge, Dz.w_int, Dz.w_intb, Dz.w_abs, Dz.w_max, Dz.w_min, Dz.w_lenL, Dz.w_lenT, Dz.w_lenR, Dz.wp_pur, Dz.startE, Dz.w_dtup, Dz.w_dlst, Dz.asDs_nil, Dz.asDs_cons, Dz.w_some, Dz.w_kTup, Dz.w_kLst, Dz.w_addL, Dz.w_addT, Dz.w_sl, Dz.w_oNone, Dz.w_oSome, Dz.w_asI, Dz.w_slL, Dz.w_slT, Dz.w_zp, Dz.w_itZL, Dz.w_itZT, Dz.w_rg3, Dz.w_par, Dz.w_asg, Dz.w_asD, Dz.w_fld, Dz.w_sfd, Dz.w_mk, Dz.w_pro, Dz.w_isI, Dz.w_met, Dz.w_ncb, Dz.w_tupL, Dz.w_tupT, Dz.w_listL, Dz.w_listT, Dz.w_sorted, Dz.w_minI, Dz.w_itA, Dz.w_itAt, Dz.w_itAs, Dz.w_itAz, Dz.w_inT, Dz.w_inL, Dz.w_niT, Dz.w_inD, Dz.w_eqS, Dz.w_neS, Dz.w_eqI, Dz.w_neI, Dz.w_eqB, Dz.w_neB, Dz.w_eqL, Dz.w_neL, Dz.w_eqT, Dz.w_neT, Dz.dunNe_str, Dz.dunNe_bl, Dz.dunNe_int, Dz.dunNe_lst, Dz.dunNe_tup, Dz.dunNe_non, Dz.dunEq_str, Dz.dunEq_bl, Dz.dunEq_int, Dz.dunEq_lst, Dz.dunEq_tup, Dz.dunEq_non, Dz.dunIn_ins, Dz.tBoolX_ins, Dz.w_notB, Dz.w_isB, Dz.wp_bnd, List.map_cons, List.map_nil, List.length_cons, List.length_nil, List.replicate, List.cons_append, List.nil_append, List.append_nil, List.getElem?_cons_zero, List.getElem?_cons_succ, List.set_cons_zero, List.set_cons_succ, Nat.reduceAdd, Nat.reduceSub, Nat.zero_add, Nat.sub_zero, Bool.not_true, Bool.not_false, if_true, if_false, Bool.false_eq_true, reduceIte, decide_eq_true_eq, Option.map_some, Nat.reduceLeDiff]))
  refine len_wp hk ?_
  refine wp_mono (cast_wp h (by omega) (by omega)) ?_
  rintro _ S1 ⟨r, rfl, r0, r1, d⟩
  refine wp_mono (ix_wp hk r0 r1) ?_
  rintro _ S2 ⟨y, rfl, hy, rfl⟩
  refine ⟨y, rfl, y, rfl, hy, ?_⟩
  rw [d.take]
  exact d
theorem numbers_wp {ns : List Int} {at_ : Int} {S : Sto} (h0 : 0 ≤ at_) (h1 : at_ < 100000) : wp (f__law_numbers [.d (.scr ns), .d (.int at_)]) S fun x S' => x = .c S.length ∧ ∃ a b c, S' = S ++ [.lst [.int a, .int b, .int c]] := by
  apply wp_fnC
  unfold b__law_numbers
  (try (simp only [Dz.wp_noE, Dz.noE_pur, Dz.w_var, Dz.w_c, Dz.w_op, Dz.w_ix, Dz.w_un, Dz.w_test, Dz.w_asB, Dz.w_not, Dz.w_and, Dz.w_or, Dz.w_if, Dz.w_sif, Dz.w_seq, Dz.after_nx, Dz.after_rt, Dz.w_next, Dz.w_ret, Dz.w_set, Dz.w_drop, Dz.w_put, Dz.w_nil, Dz.w_cons, Dz.w_cb, Dz.w_call, Dz.w_tup, Dz.w_lst, Dz.w_cell, Dz.w_for, Dz.w_of, Dz.w_rg, Dz.w_new, Dz.w_newC, Dz.w_lc, Dz.w_join, Dz.w_isS, Dz.w_chain, Dz.w_eand, Dz.w_eor, Dz.w_enot, Dz.w_ltS, Dz.w_leS, Dz.w_is, Dz.w_isnot, Dz.w_inS, Dz.w_rpr, Dz.w_itS, Dz.w_itL, Dz.w_itLs, Dz.w_itT, Dz.w_add, Dz.w_sub, Dz.w_neg, Dz.w_lt, Dz.w_le, Dz.w_gt, Dz.w_ge, Dz.w_int, Dz.w_intb, Dz.w_abs, Dz.w_max, Dz.w_min, Dz.w_lenL, Dz.w_lenT, Dz.w_lenR, Dz.wp_pur, Dz.startE, Dz.w_dtup, Dz.w_dlst, Dz.asDs_nil, Dz.asDs_cons, Dz.w_some, Dz.w_kTup, Dz.w_kLst, Dz.w_addL, Dz.w_addT, Dz.w_sl, Dz.w_oNone, Dz.w_oSome, Dz.w_asI, Dz.w_slL, Dz.w_slT, Dz.w_zp, Dz.w_itZL, Dz.w_itZT, Dz.w_rg3, Dz.w_par, Dz.w_asg, Dz.w_asD, Dz.w_fld, Dz.w_sfd, Dz.w_mk, Dz.w_pro, Dz.w_isI, Dz.w_met, Dz.w_ncb, Dz.w_tupL, Dz.w_tupT, Dz.w_listL, Dz.w_listT, Dz.w_sorted, Dz.w_minI, Dz.w_itA, Dz.w_itAt, Dz.w_itAs, Dz.w_itAz, Dz.w_inT, Dz.w_inL, Dz.w_niT, Dz.w_inD, Dz.w_eqS, Dz.w_neS, Dz.w_eqI, Dz.w_neI, Dz.w_eqB, Dz.w_neB, Dz.w_eqL, Dz.w_neL, Dz.w_eqT, Dz.w_neT, Dz.dunNe_str, Dz.dunNe_bl, Dz.dunNe_int, Dz.dunNe_lst, Dz.dunNe_tup, Dz.dunNe_non, Dz.dunEq_str, Dz.dunEq_bl, Dz.dunEq_int, Dz.dunEq_lst, Dz.dunEq_tup, Dz.dunEq_non, Dz.dunIn_ins, Dz.tBoolX_ins, Dz.w_notB, Dz.w_isB, Dz.wp_bnd, List.map_cons, List.map_nil, List.length_cons, List.length_nil, List.replicate, List.cons_append, List.nil_append, List.append_nil, List.getElem?_cons_zero, List.getElem?_cons_succ, List.set_cons_zero, List.set_cons_succ, Nat.reduceAdd, Nat.reduceSub, Nat.zero_add, Nat.sub_zero, Bool.not_true, Bool.not_false, if_true, if_false, Bool.false_eq_true, reduceIte, decide_eq_true_eq, Option.map_some, Nat.reduceLeDiff]))
  split
  · rename_i h
    have hr : at_.toNat < ns.length := by omega
    refine wp_opt (a := ns[at_.toNat]) (by rw [atI_nn h0 h, List.getElem?_eq_getElem hr]) ?_
    rw [wp_pur]
    rw [w_abs, w_int, w_pow (by decide +kernel), w_pow (by decide +kernel), w_mod (by decide +kernel), w_mul_r (by decide), w_mul_l (by decide), w_add, w_lt, w_intb, w_mul_l (by decide), w_add, w_add, w_pow (by decide +kernel), w_sub, w_max, w_int, w_mod (by decide)]
    exact ⟨_, _, rfl, S.length, _, rfl, Nat.le_refl _, List.getElem?_concat_length, trivial, _, _, _, by rw [List.take_left]⟩
  · rw [w_mul_l (by decide), w_add]
    rw [w_abs, w_int, w_pow (by decide +kernel), w_pow (by decide +kernel), w_mod (by decide +kernel), w_mul_r (by decide), w_mul_l (by decide), w_add, w_lt, w_intb, w_mul_l (by decide), w_add, w_add, w_pow (by decide +kernel), w_sub, w_max, w_int, w_mod (by decide)]
    exact ⟨_, _, rfl, S.length, _, rfl, Nat.le_refl _, List.getElem?_concat_length, trivial, _, _, _, by rw [List.take_left]⟩
end K00
namespace K00
open PySem PySem.Spec PyProof.Rows L2 Dz
open Lim
theorem fn_S {N : Nat} {s : Dz.Env → M Out} {xs : List Vl} {y : D} (h : ∀ S, fnM N s xs S = .ok (.d y) (S.take S.length)) : fnM N s xs = pur (.d y) := funext fun S => by rw [h S, List.take_length]; rfl
theorem dp_DepthError : f__law_of_depth [.d (.exn "DepthError" [])] = pur (.d (.lst [.int 0])) := fn_S fun S => by kernel_rfl
theorem ot_DepthError : f__law_of_others [.d (.exn "DepthError" [])] = pur (.d (.lst [.str "value"])) := fn_S fun S => by kernel_rfl
theorem dp_InvalidProgram : f__law_of_depth [.d (.exn "InvalidProgram" [])] = pur (.d (.lst [.int 0, .int 1])) := fn_S fun S => by kernel_rfl
theorem ot_InvalidProgram : f__law_of_others [.d (.exn "InvalidProgram" [])] = pur (.d (.lst [.str "value"])) := fn_S fun S => by kernel_rfl
theorem dp_InvalidRun : f__law_of_depth [.d (.exn "InvalidRun" [])] = pur (.d (.lst [.int 0, .int 2])) := fn_S fun S => by kernel_rfl
theorem ot_InvalidRun : f__law_of_others [.d (.exn "InvalidRun" [])] = pur (.d (.lst [.str "value"])) := fn_S fun S => by kernel_rfl
theorem dp_InvalidLimit : f__law_of_depth [.d (.exn "InvalidLimit" [])] = pur (.d (.lst [.int 0, .int 3])) := fn_S fun S => by kernel_rfl
theorem ot_InvalidLimit : f__law_of_others [.d (.exn "InvalidLimit" [])] = pur (.d (.lst [.str "value"])) := fn_S fun S => by kernel_rfl
theorem dp_InvalidLimits : f__law_of_depth [.d (.exn "InvalidLimits" [])] = pur (.d (.lst [.int 0, .int 4])) := fn_S fun S => by kernel_rfl
theorem ot_InvalidLimits : f__law_of_others [.d (.exn "InvalidLimits" [])] = pur (.d (.lst [.str "value"])) := fn_S fun S => by kernel_rfl
theorem dp_InvalidModes : f__law_of_depth [.d (.exn "InvalidModes" [])] = pur (.d (.lst [.int 0, .int 5])) := fn_S fun S => by kernel_rfl
theorem ot_InvalidModes : f__law_of_others [.d (.exn "InvalidModes" [])] = pur (.d (.lst [.str "value"])) := fn_S fun S => by kernel_rfl
theorem dp_InvalidRow : f__law_of_depth [.d (.exn "InvalidRow" [])] = pur (.d (.lst [.int 0, .int 6])) := fn_S fun S => by kernel_rfl
theorem ot_InvalidRow : f__law_of_others [.d (.exn "InvalidRow" [])] = pur (.d (.lst [.str "value"])) := fn_S fun S => by kernel_rfl
theorem dp_InvalidSign : f__law_of_depth [.d (.exn "InvalidSign" [])] = pur (.d (.lst [.int 0, .int 7])) := fn_S fun S => by kernel_rfl
theorem ot_InvalidSign : f__law_of_others [.d (.exn "InvalidSign" [])] = pur (.d (.lst [.str "value"])) := fn_S fun S => by kernel_rfl
theorem dp_InvalidOperation : f__law_of_depth [.d (.exn "InvalidOperation" [])] = pur (.d (.lst [.int 0, .int 8])) := fn_S fun S => by kernel_rfl
theorem ot_InvalidOperation : f__law_of_others [.d (.exn "InvalidOperation" [])] = pur (.d (.lst [.str "value"])) := fn_S fun S => by kernel_rfl
theorem dp_InvalidCommand : f__law_of_depth [.d (.exn "InvalidCommand" [])] = pur (.d (.lst [.int 0, .int 9])) := fn_S fun S => by kernel_rfl
theorem ot_InvalidCommand : f__law_of_others [.d (.exn "InvalidCommand" [])] = pur (.d (.lst [.str "value"])) := fn_S fun S => by kernel_rfl
theorem dp_ParseError {y : D} : f__law_of_depth [.d (.exn "ParseError" [("line", y)])] = pur (.d (.lst [.int 0, .int 10])) := fn_S fun S => by kernel_rfl
theorem ot_ParseError {y : D} : f__law_of_others [.d (.exn "ParseError" [("line", y)])] = pur (.d (.lst [.str "value"])) := fn_S fun S => by kernel_rfl
theorem dp_UnknownName {y : D} : f__law_of_depth [.d (.exn "UnknownName" [("name", y)])] = pur (.d (.lst [])) := fn_S fun S => by kernel_rfl
theorem ot_UnknownName {y : D} : f__law_of_others [.d (.exn "UnknownName" [("name", y)])] = pur (.d (.lst [.str "name", .str "key", .str "lookup"])) := fn_S fun S => by kernel_rfl
theorem dp_UnknownSite {y : D} : f__law_of_depth [.d (.exn "UnknownSite" [("site", y)])] = pur (.d (.lst [])) := fn_S fun S => by kernel_rfl
theorem ot_UnknownSite {y : D} : f__law_of_others [.d (.exn "UnknownSite" [("site", y)])] = pur (.d (.lst [.str "site", .str "key", .str "lookup"])) := fn_S fun S => by kernel_rfl
theorem dp_InvalidNumber {y : D} : f__law_of_depth [.d (.exn "InvalidNumber" [("value", y)])] = pur (.d (.lst [])) := fn_S fun S => by kernel_rfl
theorem ot_InvalidNumber {y : D} : f__law_of_others [.d (.exn "InvalidNumber" [("value", y)])] = pur (.d (.lst [.str "number", .str "index", .str "lookup"])) := fn_S fun S => by kernel_rfl
theorem dp_NothingToUndo {y : D} : f__law_of_depth [.d (.exn "NothingToUndo" [("many", y)])] = pur (.d (.lst [])) := fn_S fun S => by kernel_rfl
theorem ot_NothingToUndo {y : D} : f__law_of_others [.d (.exn "NothingToUndo" [("many", y)])] = pur (.d (.lst [.str "undo", .str "lookup"])) := fn_S fun S => by kernel_rfl
theorem dp_Refused {y : D} : f__law_of_depth [.d (.exn "Refused" [("name", y)])] = pur (.d (.lst [])) := fn_S fun S => by kernel_rfl
theorem ot_Refused {y : D} : f__law_of_others [.d (.exn "Refused" [("name", y)])] = pur (.d (.lst [.str "refused", .str "arithmetic"])) := fn_S fun S => by kernel_rfl
theorem dp_TooMany {y : D} : f__law_of_depth [.d (.exn "TooMany" [("limit", y)])] = pur (.d (.lst [])) := fn_S fun S => by kernel_rfl
theorem ot_TooMany {y : D} : f__law_of_others [.d (.exn "TooMany" [("limit", y)])] = pur (.d (.lst [.str "over", .str "arithmetic", .str "overflow"])) := fn_S fun S => by kernel_rfl
theorem plain_ones {x : D} : f__law_plain_ones [.d x] = pur (.d (.lst [.exn "DepthError" [], .exn "InvalidProgram" [], .exn "InvalidRun" [], .exn "InvalidLimit" [], .exn "InvalidLimits" [], .exn "InvalidModes" [], .exn "InvalidRow" [], .exn "InvalidSign" [], .exn "InvalidOperation" [], .exn "InvalidCommand" []])) := fn_S fun S => by kernel_rfl
theorem call_var {φ : List Vl → M Vl} {i : Nat} {ρ : Dz.Env} {d : D} (h : ρ[i]? = some (some (.d d))) : eCall φ (aCons (eVar i) aNil) ρ = φ [.d d] := by
  have e : eVar i ρ = pur (.d d) := by unfold eVar; rw [h]
  show bnd (bnd (eVar i ρ) _) _ = _
  rw [e, bnd_ret]
  rfl
theorem lc_nil {i : Nat} {f : Dz.Env → M Vl} {ρ : Dz.Env} : lcL (.one i) bYes f ρ [] = pur [] := rfl
theorem lc_cons {i : Nat} {φ : List Vl → M Vl} {ρ : Dz.Env} {d v : D} {ds vs : List D} (hi : i < ρ.length) (h : φ [.d d] = pur (.d v)) (hs : lcL (.one i) bYes (eCall φ (aCons (eVar i) aNil)) ρ ds = pur vs) : lcL (.one i) bYes (eCall φ (aCons (eVar i) aNil)) ρ (d :: ds) = pur (v :: vs) := by
  unfold lcL
  show bnd (eCall φ (aCons (eVar i) aNil) (ρ.set i (some (.d d)))) _ = _
  rw [call_var (d := d) (List.getElem?_set_self hi), h, bnd_ret]
  show bnd (lcL (.one i) bYes _ ρ ds) _ = _
  rw [hs, bnd_ret]
def PD : List D := [.lst [.int 0], .lst [.int 0, .int 1], .lst [.int 0, .int 2], .lst [.int 0, .int 3], .lst [.int 0, .int 4], .lst [.int 0, .int 5], .lst [.int 0, .int 6], .lst [.int 0, .int 7], .lst [.int 0, .int 8], .lst [.int 0, .int 9]]
section
variable {ρ : Dz.Env} {y1 y2 y3 y4 y5 y6 : D}
theorem pl_dep (hi : 15 < ρ.length) : lcL (.one 15) bYes (eCall f__law_of_depth (aCons (eVar 15) aNil)) ρ [.exn "DepthError" [], .exn "InvalidProgram" [], .exn "InvalidRun" [], .exn "InvalidLimit" [], .exn "InvalidLimits" [], .exn "InvalidModes" [], .exn "InvalidRow" [], .exn "InvalidSign" [], .exn "InvalidOperation" [], .exn "InvalidCommand" []] = pur [.lst [.int 0], .lst [.int 0, .int 1], .lst [.int 0, .int 2], .lst [.int 0, .int 3], .lst [.int 0, .int 4], .lst [.int 0, .int 5], .lst [.int 0, .int 6], .lst [.int 0, .int 7], .lst [.int 0, .int 8], .lst [.int 0, .int 9]] := lc_cons hi dp_DepthError (lc_cons hi dp_InvalidProgram (lc_cons hi dp_InvalidRun (lc_cons hi dp_InvalidLimit (lc_cons hi dp_InvalidLimits (lc_cons hi dp_InvalidModes (lc_cons hi dp_InvalidRow (lc_cons hi dp_InvalidSign (lc_cons hi dp_InvalidOperation (lc_cons hi dp_InvalidCommand (lc_nil))))))))))
theorem pl_oth (hi : 15 < ρ.length) : lcL (.one 15) bYes (eCall f__law_of_others (aCons (eVar 15) aNil)) ρ [.exn "DepthError" [], .exn "InvalidProgram" [], .exn "InvalidRun" [], .exn "InvalidLimit" [], .exn "InvalidLimits" [], .exn "InvalidModes" [], .exn "InvalidRow" [], .exn "InvalidSign" [], .exn "InvalidOperation" [], .exn "InvalidCommand" []] = pur [.lst [.str "value"], .lst [.str "value"], .lst [.str "value"], .lst [.str "value"], .lst [.str "value"], .lst [.str "value"], .lst [.str "value"], .lst [.str "value"], .lst [.str "value"], .lst [.str "value"]] := lc_cons hi ot_DepthError (lc_cons hi ot_InvalidProgram (lc_cons hi ot_InvalidRun (lc_cons hi ot_InvalidLimit (lc_cons hi ot_InvalidLimits (lc_cons hi ot_InvalidModes (lc_cons hi ot_InvalidRow (lc_cons hi ot_InvalidSign (lc_cons hi ot_InvalidOperation (lc_cons hi ot_InvalidCommand (lc_nil))))))))))
theorem kp_dep (hi : 15 < ρ.length) : lcL (.one 15) bYes (eCall f__law_of_depth (aCons (eVar 15) aNil)) ρ [.exn "UnknownName" [("name", y1)], .exn "UnknownSite" [("site", y2)], .exn "InvalidNumber" [("value", y3)], .exn "NothingToUndo" [("many", y4)], .exn "Refused" [("name", y5)], .exn "TooMany" [("limit", y6)]] = pur [.lst [], .lst [], .lst [], .lst [], .lst [], .lst []] := lc_cons hi dp_UnknownName (lc_cons hi dp_UnknownSite (lc_cons hi dp_InvalidNumber (lc_cons hi dp_NothingToUndo (lc_cons hi dp_Refused (lc_cons hi dp_TooMany (lc_nil))))))
theorem kp_oth (hi : 15 < ρ.length) : lcL (.one 15) bYes (eCall f__law_of_others (aCons (eVar 15) aNil)) ρ [.exn "UnknownName" [("name", y1)], .exn "UnknownSite" [("site", y2)], .exn "InvalidNumber" [("value", y3)], .exn "NothingToUndo" [("many", y4)], .exn "Refused" [("name", y5)], .exn "TooMany" [("limit", y6)]] = pur [.lst [.str "name", .str "key", .str "lookup"], .lst [.str "site", .str "key", .str "lookup"], .lst [.str "number", .str "index", .str "lookup"], .lst [.str "undo", .str "lookup"], .lst [.str "refused", .str "arithmetic"], .lst [.str "over", .str "arithmetic", .str "overflow"]] := lc_cons hi ot_UnknownName (lc_cons hi ot_UnknownSite (lc_cons hi ot_InvalidNumber (lc_cons hi ot_NothingToUndo (lc_cons hi ot_Refused (lc_cons hi ot_TooMany (lc_nil))))))
end
theorem ne_pd : cNeX (.d (.lst [.lst [.int 0], .lst [.int 0, .int 1], .lst [.int 0, .int 2], .lst [.int 0, .int 3], .lst [.int 0, .int 4], .lst [.int 0, .int 5], .lst [.int 0, .int 6], .lst [.int 0, .int 7], .lst [.int 0, .int 8], .lst [.int 0, .int 9]])) (.d (.lst PD)) = pur (.d (.bl false)) := by kernel_rfl
theorem ne_po : cNeX (.d (.lst [.lst [.str "value"], .lst [.str "value"], .lst [.str "value"], .lst [.str "value"], .lst [.str "value"], .lst [.str "value"], .lst [.str "value"], .lst [.str "value"], .lst [.str "value"], .lst [.str "value"]])) (.d (.lst [.lst [.str "value"], .lst [.str "value"], .lst [.str "value"], .lst [.str "value"], .lst [.str "value"], .lst [.str "value"], .lst [.str "value"], .lst [.str "value"], .lst [.str "value"], .lst [.str "value"]])) = pur (.d (.bl false)) := by kernel_rfl
theorem ne_kd : cNeX (.d (.lst [.lst [], .lst [], .lst [], .lst [], .lst [], .lst []])) (.d (.lst [.lst [], .lst [], .lst [], .lst [], .lst [], .lst []])) = pur (.d (.bl false)) := by kernel_rfl
theorem eq_ko : cEqX (.d (.lst [.lst [.str "name", .str "key", .str "lookup"], .lst [.str "site", .str "key", .str "lookup"], .lst [.str "number", .str "index", .str "lookup"], .lst [.str "undo", .str "lookup"], .lst [.str "refused", .str "arithmetic"], .lst [.str "over", .str "arithmetic", .str "overflow"]])) (.d (.lst [.lst [.str "name", .str "key", .str "lookup"], .lst [.str "site", .str "key", .str "lookup"], .lst [.str "number", .str "index", .str "lookup"], .lst [.str "undo", .str "lookup"], .lst [.str "refused", .str "arithmetic"], .lst [.str "over", .str "arithmetic", .str "overflow"]])) = pur (.d (.bl true)) := by kernel_rfl
theorem ne_d1 : cNeX (.d (.lst [.int 0, .int 10])) (.d (.lst [.int 0, .int 10])) = pur (.d (.bl false)) := by kernel_rfl
theorem ne_o1 : cNeX (.d (.lst [.str "value"])) (.d (.lst [.str "value"])) = pur (.d (.bl false)) := by kernel_rfl
theorem mul_po : opMul (.d (.lst [.lst [.str "value"]])) (.d (.int 10)) = pur (.d (.lst [.lst [.str "value"], .lst [.str "value"], .lst [.str "value"], .lst [.str "value"], .lst [.str "value"], .lst [.str "value"], .lst [.str "value"], .lst [.str "value"], .lst [.str "value"], .lst [.str "value"]])) := by kernel_rfl
theorem mul_kd : opMul (.d (.lst [.lst []])) (.d (.int 6)) = pur (.d (.lst [.lst [], .lst [], .lst [], .lst [], .lst [], .lst []])) := by kernel_rfl
def valsL : List D := [.int 0, .int 7, .str "p", .str "", .tup [.str "p", .int 3], .non, .int (-1), .int 1000000000000000000000000000000000000000, .lst [.int 1], .dct [], .bl true, .tup [], .str "a b"]
def okV (d : D) : Bool := match pyOfE d with
  | some p => PyData.showable p && (decide (PyData.depth p ≤ 5) && decide (p.shown.length ≤ 100))
  | none => false
theorem okV_all : valsL.all okV = true := by decide +kernel
theorem okVs : ∀ {ds : List D}, (∀ d ∈ ds, okV d = true) → ∃ ps, pyOfEs ds = some ps ∧ PyData.showableAll ps = true ∧ PyData.depthAll ps ≤ 5 ∧ sumL (PyData.shownAll ps) ≤ ds.length * 102
  | [], _ => ⟨[], rfl, rfl, Nat.zero_le _, Nat.le_refl 0⟩
  | d :: ds, h => by
    obtain ⟨ps, a, b, c, e⟩ := okVs fun x hx => h x (List.mem_cons_of_mem _ hx)
    have hd := h d List.mem_cons_self
    unfold okV at hd
    split at hd
    · rename_i p hp
      rw [Bool.and_eq_true, Bool.and_eq_true, decide_eq_true_eq, decide_eq_true_eq] at hd
      obtain ⟨h1, h2, h3⟩ := hd
      refine ⟨p :: ps, ?_, ?_, ?_, ?_⟩
      · show (match pyOfE d, pyOfEs ds with
          | some p, some ps => some (p :: ps)
          | _, _ => none) = _
        rw [hp, a]
      · rw [PyData.showableAll, h1, b]; rfl
      · rw [PyData.depthAll]; exact Nat.max_le.mpr ⟨h2, c⟩
      · rw [PyData.shownAll, List.length_cons, Nat.succ_mul]
        have e2 : sumL (PyData.shown p :: PyData.shownAll ps) = ((PyData.shown p).length + 2) + sumL (PyData.shownAll ps) := by unfold sumL; rw [List.map_cons, List.sum_cons]
        omega
    · cases hd
theorem repr_vals {ds : List D} (h : ∀ d ∈ ds, okV d = true) (hl : ds.length ≤ 10) : ∃ z, bReprE [.d (.lst ds)] = pur (.d (.str z)) := by
  obtain ⟨ps, a, b, c, e⟩ := okVs h
  have hp : pyOfE (.lst ds) = some (.list ps) := by
    unfold pyOfE
    rw [a]
  refine ⟨(PyData.list ps).shown, ?_⟩
  show opt (pyOfE (.lst ds)) _ = _
  rw [hp]
  show (if shwE (.list ps) = true then _ else _) = _
  rw [if_pos]
  unfold shwE
  have h1 : PyData.showable (.list ps) = true := b
  have h2 : PyData.depth (.list ps) ≤ 100 := by rw [PyData.depth]; omega
  have h3 : (PyData.shown (.list ps)).length ≤ 100000 := by
    rw [PyData.shown]
    have := list_le (PyData.shownAll ps)
    omega
  rw [h1, decide_eq_true h2, decide_eq_true h3]
  rfl
theorem seven {ds : List D} (h : ds.length = 7) : ∃ a b c d e f g, ds = [a, b, c, d, e, f, g] := by
  match ds, h with
  | [a, b, c, d, e, f, g], _ => exact ⟨a, b, c, d, e, f, g, rfl⟩
theorem right_wp {n : Nat} {S : Sto} (h : Die n S) : wp (f__law_right [.c n]) S fun r S' => r = .d (.bl true) ∧ Drw n S S' := by
  apply wp_fn
  unfold b__law_right
  have pw : ∀ (S : Sto) (Q : Vl → Sto → Prop), wp (opPow (.d (.int 10)) (.d (.int 39))) S Q ↔ Q (.d (.int 1000000000000000000000000000000000000000)) S := fun S Q => by rw [w_pow (by decide +kernel)]; rfl
  ((try rw [Dz.after_nx]); (simp (maxSteps := 4000000) (disch := first | omega | decide | assumption | (simp only [List.length_cons, List.length_nil, Nat.reduceAdd, Nat.reduceLeDiff]; done) | (simp only [List.length_cons, List.length_nil, List.length_map, Dz.ints_len]; omega)) only [Dz.wp_noE, Dz.noE_pur, Dz.w_var, Dz.w_c, Dz.w_op, Dz.w_ix, Dz.w_un, Dz.w_test, Dz.w_asB, Dz.w_not, Dz.w_and, Dz.w_or, Dz.w_if, Dz.w_sif, Dz.w_seq, Dz.after_rt, Dz.w_next, Dz.w_ret, Dz.w_set, Dz.w_drop, Dz.w_put, Dz.w_nil, Dz.w_cons, Dz.w_cb, Dz.w_call, Dz.w_tup, Dz.w_lst, Dz.w_cell, Dz.w_for, Dz.w_of, Dz.w_rg, Dz.w_new, Dz.w_newC, Dz.w_lc, Dz.w_join, Dz.w_isS, Dz.w_chain, Dz.w_eand, Dz.w_eor, Dz.w_enot, Dz.w_ltS, Dz.w_leS, Dz.w_is, Dz.w_isnot, Dz.w_inS, Dz.w_rpr, Dz.w_itS, Dz.w_itL, Dz.w_itLs, Dz.w_itT, Dz.w_add, Dz.w_sub, Dz.w_neg, Dz.w_lt, Dz.w_le, Dz.w_gt, Dz.w_ge, Dz.w_int, Dz.w_intb, Dz.w_abs, Dz.w_max, Dz.w_min, Dz.w_lenL, Dz.w_lenT, Dz.w_lenR, Dz.wp_pur, Dz.startE, Dz.w_dtup, Dz.w_dlst, Dz.asDs_nil, Dz.asDs_cons, Dz.w_some, Dz.w_kTup, Dz.w_kLst, Dz.w_addL, Dz.w_addT, Dz.w_sl, Dz.w_oNone, Dz.w_oSome, Dz.w_asI, Dz.w_slL, Dz.w_slT, Dz.w_zp, Dz.w_itZL, Dz.w_itZT, Dz.w_rg3, Dz.w_par, Dz.w_asg, Dz.w_asD, Dz.w_fld, Dz.w_sfd, Dz.w_mk, Dz.w_pro, Dz.w_isI, Dz.w_met, Dz.w_ncb, Dz.w_tupL, Dz.w_tupT, Dz.w_listL, Dz.w_listT, Dz.w_sorted, Dz.w_minI, Dz.w_itA, Dz.w_itAt, Dz.w_itAs, Dz.w_itAz, Dz.w_inT, Dz.w_inL, Dz.w_niT, Dz.w_inD, Dz.w_eqS, Dz.w_neS, Dz.w_eqI, Dz.w_neI, Dz.w_eqB, Dz.w_neB, Dz.w_eqL, Dz.w_neL, Dz.w_eqT, Dz.w_neT, Dz.dunNe_str, Dz.dunNe_bl, Dz.dunNe_int, Dz.dunNe_lst, Dz.dunNe_tup, Dz.dunNe_non, Dz.dunEq_str, Dz.dunEq_bl, Dz.dunEq_int, Dz.dunEq_lst, Dz.dunEq_tup, Dz.dunEq_non, Dz.dunIn_ins, Dz.tBoolX_ins, Dz.w_notB, Dz.w_isB, Dz.wp_bnd, Dz.w_mod, Dz.w_div, Dz.w_itR, Dz.w_itR2, Dz.w_fldD, Dz.w_cm, Dz.w_mkL, Dz.w_isC, Dz.w_fldL, Dz.w_stL, Dz.w_len, Dz.dInts_ints, Dz.ints_len, Dz.w_asgL, Dz.wipeE, Dz.setAll, Dz.w_gset1, Dz.w_gset2, Dz.w_gset3, Dz.w_lam, List.map_cons, List.map_nil, List.length_cons, List.length_nil, List.replicate, List.cons_append, List.nil_append, List.append_nil, List.getElem?_cons_zero, List.getElem?_cons_succ, List.set_cons_zero, List.set_cons_succ, Nat.reduceAdd, Nat.reduceSub, Nat.zero_add, Nat.sub_zero, Bool.not_true, Bool.not_false, if_true, if_false, Bool.false_eq_true, reduceIte, decide_eq_true_eq, Option.map_some, Nat.reduceLeDiff, List.length_map, List.foldl_cons, List.foldl_nil, pw]))
  ((try rw [Dz.after_nx]); (simp (maxSteps := 4000000) (disch := first | omega | decide | assumption | (simp only [List.length_cons, List.length_nil, Nat.reduceAdd, Nat.reduceLeDiff]; done) | (simp only [List.length_cons, List.length_nil, List.length_map, Dz.ints_len]; omega)) only [Dz.wp_noE, Dz.noE_pur, Dz.w_var, Dz.w_c, Dz.w_op, Dz.w_ix, Dz.w_un, Dz.w_test, Dz.w_asB, Dz.w_not, Dz.w_and, Dz.w_or, Dz.w_if, Dz.w_sif, Dz.w_seq, Dz.after_rt, Dz.w_next, Dz.w_ret, Dz.w_set, Dz.w_drop, Dz.w_put, Dz.w_nil, Dz.w_cons, Dz.w_cb, Dz.w_call, Dz.w_tup, Dz.w_lst, Dz.w_cell, Dz.w_for, Dz.w_of, Dz.w_rg, Dz.w_new, Dz.w_newC, Dz.w_lc, Dz.w_join, Dz.w_isS, Dz.w_chain, Dz.w_eand, Dz.w_eor, Dz.w_enot, Dz.w_ltS, Dz.w_leS, Dz.w_is, Dz.w_isnot, Dz.w_inS, Dz.w_rpr, Dz.w_itS, Dz.w_itL, Dz.w_itLs, Dz.w_itT, Dz.w_add, Dz.w_sub, Dz.w_neg, Dz.w_lt, Dz.w_le, Dz.w_gt, Dz.w_ge, Dz.w_int, Dz.w_intb, Dz.w_abs, Dz.w_max, Dz.w_min, Dz.w_lenL, Dz.w_lenT, Dz.w_lenR, Dz.wp_pur, Dz.startE, Dz.w_dtup, Dz.w_dlst, Dz.asDs_nil, Dz.asDs_cons, Dz.w_some, Dz.w_kTup, Dz.w_kLst, Dz.w_addL, Dz.w_addT, Dz.w_sl, Dz.w_oNone, Dz.w_oSome, Dz.w_asI, Dz.w_slL, Dz.w_slT, Dz.w_zp, Dz.w_itZL, Dz.w_itZT, Dz.w_rg3, Dz.w_par, Dz.w_asg, Dz.w_asD, Dz.w_fld, Dz.w_sfd, Dz.w_mk, Dz.w_pro, Dz.w_isI, Dz.w_met, Dz.w_ncb, Dz.w_tupL, Dz.w_tupT, Dz.w_listL, Dz.w_listT, Dz.w_sorted, Dz.w_minI, Dz.w_itA, Dz.w_itAt, Dz.w_itAs, Dz.w_itAz, Dz.w_inT, Dz.w_inL, Dz.w_niT, Dz.w_inD, Dz.w_eqS, Dz.w_neS, Dz.w_eqI, Dz.w_neI, Dz.w_eqB, Dz.w_neB, Dz.w_eqL, Dz.w_neL, Dz.w_eqT, Dz.w_neT, Dz.dunNe_str, Dz.dunNe_bl, Dz.dunNe_int, Dz.dunNe_lst, Dz.dunNe_tup, Dz.dunNe_non, Dz.dunEq_str, Dz.dunEq_bl, Dz.dunEq_int, Dz.dunEq_lst, Dz.dunEq_tup, Dz.dunEq_non, Dz.dunIn_ins, Dz.tBoolX_ins, Dz.w_notB, Dz.w_isB, Dz.wp_bnd, Dz.w_mod, Dz.w_div, Dz.w_itR, Dz.w_itR2, Dz.w_fldD, Dz.w_cm, Dz.w_mkL, Dz.w_isC, Dz.w_fldL, Dz.w_stL, Dz.w_len, Dz.dInts_ints, Dz.ints_len, Dz.w_asgL, Dz.wipeE, Dz.setAll, Dz.w_gset1, Dz.w_gset2, Dz.w_gset3, Dz.w_lam, List.map_cons, List.map_nil, List.length_cons, List.length_nil, List.replicate, List.cons_append, List.nil_append, List.append_nil, List.getElem?_cons_zero, List.getElem?_cons_succ, List.set_cons_zero, List.set_cons_succ, Nat.reduceAdd, Nat.reduceSub, Nat.zero_add, Nat.sub_zero, Bool.not_true, Bool.not_false, if_true, if_false, Bool.false_eq_true, reduceIte, decide_eq_true_eq, Option.map_some, Nat.reduceLeDiff, List.length_map, List.foldl_cons, List.foldl_nil]))
  have hvl : ∀ d ∈ valsL, okV d = true := fun d hd => List.all_eq_true.mp okV_all d hd
  have hpk : ∀ S', Die n S' → wp (f__law_pick [.c n, .d (.lst valsL)]) S' fun x S2 => ∃ y, x = .d y ∧ y ∈ itemsOf (.lst valsL) ∧ Drw n S' S2 := fun S' h' => pick_wp h' ⟨_, .inl rfl⟩ (by decide) (by decide)
  obtain ⟨vals, hvals⟩ : ∃ v, v = valsL := ⟨_, rfl⟩
  rw [show [D.int 0, .int 7, .str "p", .str "", .tup [.str "p", .int 3], .non, .int (-1), .int 1000000000000000000000000000000000000000, .lst [.int 1], .dct [], .bl true, .tup [], .str "a b"] = vals from hvals.symm]
  rw [← hvals] at hvl hpk
  refine wp_mono (lcL_each (I := fun S' => Drw n S S') (B := fun d => okV d = true) (Lim.upto 0 (Int.toNat 7)) S (Drw.refl h) fun x hx S4 d4 => ?_) ?_
  · (try ((try rw [Dz.after_nx]); (simp (maxSteps := 4000000) (disch := first | omega | decide | assumption | (simp only [List.length_cons, List.length_nil, Nat.reduceAdd, Nat.reduceLeDiff]; done) | (simp only [List.length_cons, List.length_nil, List.length_map, Dz.ints_len]; omega)) only [Dz.wp_noE, Dz.noE_pur, Dz.w_var, Dz.w_c, Dz.w_op, Dz.w_ix, Dz.w_un, Dz.w_test, Dz.w_asB, Dz.w_not, Dz.w_and, Dz.w_or, Dz.w_if, Dz.w_sif, Dz.w_seq, Dz.after_rt, Dz.w_next, Dz.w_ret, Dz.w_set, Dz.w_drop, Dz.w_put, Dz.w_nil, Dz.w_cons, Dz.w_cb, Dz.w_call, Dz.w_tup, Dz.w_lst, Dz.w_cell, Dz.w_for, Dz.w_of, Dz.w_rg, Dz.w_new, Dz.w_newC, Dz.w_lc, Dz.w_join, Dz.w_isS, Dz.w_chain, Dz.w_eand, Dz.w_eor, Dz.w_enot, Dz.w_ltS, Dz.w_leS, Dz.w_is, Dz.w_isnot, Dz.w_inS, Dz.w_rpr, Dz.w_itS, Dz.w_itL, Dz.w_itLs, Dz.w_itT, Dz.w_add, Dz.w_sub, Dz.w_neg, Dz.w_lt, Dz.w_le, Dz.w_gt, Dz.w_ge, Dz.w_int, Dz.w_intb, Dz.w_abs, Dz.w_max, Dz.w_min, Dz.w_lenL, Dz.w_lenT, Dz.w_lenR, Dz.wp_pur, Dz.startE, Dz.w_dtup, Dz.w_dlst, Dz.asDs_nil, Dz.asDs_cons, Dz.w_some, Dz.w_kTup, Dz.w_kLst, Dz.w_addL, Dz.w_addT, Dz.w_sl, Dz.w_oNone, Dz.w_oSome, Dz.w_asI, Dz.w_slL, Dz.w_slT, Dz.w_zp, Dz.w_itZL, Dz.w_itZT, Dz.w_rg3, Dz.w_par, Dz.w_asg, Dz.w_asD, Dz.w_fld, Dz.w_sfd, Dz.w_mk, Dz.w_pro, Dz.w_isI, Dz.w_met, Dz.w_ncb, Dz.w_tupL, Dz.w_tupT, Dz.w_listL, Dz.w_listT, Dz.w_sorted, Dz.w_minI, Dz.w_itA, Dz.w_itAt, Dz.w_itAs, Dz.w_itAz, Dz.w_inT, Dz.w_inL, Dz.w_niT, Dz.w_inD, Dz.w_eqS, Dz.w_neS, Dz.w_eqI, Dz.w_neI, Dz.w_eqB, Dz.w_neB, Dz.w_eqL, Dz.w_neL, Dz.w_eqT, Dz.w_neT, Dz.dunNe_str, Dz.dunNe_bl, Dz.dunNe_int, Dz.dunNe_lst, Dz.dunNe_tup, Dz.dunNe_non, Dz.dunEq_str, Dz.dunEq_bl, Dz.dunEq_int, Dz.dunEq_lst, Dz.dunEq_tup, Dz.dunEq_non, Dz.dunIn_ins, Dz.tBoolX_ins, Dz.w_notB, Dz.w_isB, Dz.wp_bnd, Dz.w_mod, Dz.w_div, Dz.w_itR, Dz.w_itR2, Dz.w_fldD, Dz.w_cm, Dz.w_mkL, Dz.w_isC, Dz.w_fldL, Dz.w_stL, Dz.w_len, Dz.dInts_ints, Dz.ints_len, Dz.w_asgL, Dz.wipeE, Dz.setAll, Dz.w_gset1, Dz.w_gset2, Dz.w_gset3, Dz.w_lam, List.map_cons, List.map_nil, List.length_cons, List.length_nil, List.replicate, List.cons_append, List.nil_append, List.append_nil, List.getElem?_cons_zero, List.getElem?_cons_succ, List.set_cons_zero, List.set_cons_succ, Nat.reduceAdd, Nat.reduceSub, Nat.zero_add, Nat.sub_zero, Bool.not_true, Bool.not_false, if_true, if_false, Bool.false_eq_true, reduceIte, decide_eq_true_eq, Option.map_some, Nat.reduceLeDiff, List.length_map, List.foldl_cons, List.foldl_nil])))
    refine wp_mono (hpk S4 (d4.die h)) ?_
    rintro _ S5 ⟨d, rfl, hd, d5⟩
    exact ⟨d, rfl, hvl d hd, d4.trans d5⟩
  rintro ds S4 ⟨hdl, hds, d4⟩
  obtain ⟨y0, y1, y2, y3, y4, y5, y6, rfl⟩ := seven (by rw [hdl]; decide)
  obtain ⟨z, hz⟩ := repr_vals hds (by simp)
  ((try rw [Dz.after_nx]); (simp (maxSteps := 4000000) (disch := first | omega | decide | assumption | (simp only [List.length_cons, List.length_nil, Nat.reduceAdd, Nat.reduceLeDiff]; done) | (simp only [List.length_cons, List.length_nil, List.length_map, Dz.ints_len]; omega)) only [Dz.wp_noE, Dz.noE_pur, Dz.w_var, Dz.w_c, Dz.w_op, Dz.w_ix, Dz.w_un, Dz.w_test, Dz.w_asB, Dz.w_not, Dz.w_and, Dz.w_or, Dz.w_if, Dz.w_sif, Dz.w_seq, Dz.after_rt, Dz.w_next, Dz.w_ret, Dz.w_set, Dz.w_drop, Dz.w_put, Dz.w_nil, Dz.w_cons, Dz.w_cb, Dz.w_call, Dz.w_tup, Dz.w_lst, Dz.w_cell, Dz.w_for, Dz.w_of, Dz.w_rg, Dz.w_new, Dz.w_newC, Dz.w_lc, Dz.w_join, Dz.w_isS, Dz.w_chain, Dz.w_eand, Dz.w_eor, Dz.w_enot, Dz.w_ltS, Dz.w_leS, Dz.w_is, Dz.w_isnot, Dz.w_inS, Dz.w_rpr, Dz.w_itS, Dz.w_itL, Dz.w_itLs, Dz.w_itT, Dz.w_add, Dz.w_sub, Dz.w_neg, Dz.w_lt, Dz.w_le, Dz.w_gt, Dz.w_ge, Dz.w_int, Dz.w_intb, Dz.w_abs, Dz.w_max, Dz.w_min, Dz.w_lenL, Dz.w_lenT, Dz.w_lenR, Dz.wp_pur, Dz.startE, Dz.w_dtup, Dz.w_dlst, Dz.asDs_nil, Dz.asDs_cons, Dz.w_some, Dz.w_kTup, Dz.w_kLst, Dz.w_addL, Dz.w_addT, Dz.w_sl, Dz.w_oNone, Dz.w_oSome, Dz.w_asI, Dz.w_slL, Dz.w_slT, Dz.w_zp, Dz.w_itZL, Dz.w_itZT, Dz.w_rg3, Dz.w_par, Dz.w_asg, Dz.w_asD, Dz.w_fld, Dz.w_sfd, Dz.w_mk, Dz.w_pro, Dz.w_isI, Dz.w_met, Dz.w_ncb, Dz.w_tupL, Dz.w_tupT, Dz.w_listL, Dz.w_listT, Dz.w_sorted, Dz.w_minI, Dz.w_itA, Dz.w_itAt, Dz.w_itAs, Dz.w_itAz, Dz.w_inT, Dz.w_inL, Dz.w_niT, Dz.w_inD, Dz.w_eqS, Dz.w_neS, Dz.w_eqI, Dz.w_neI, Dz.w_eqB, Dz.w_neB, Dz.w_eqL, Dz.w_neL, Dz.w_eqT, Dz.w_neT, Dz.dunNe_str, Dz.dunNe_bl, Dz.dunNe_int, Dz.dunNe_lst, Dz.dunNe_tup, Dz.dunNe_non, Dz.dunEq_str, Dz.dunEq_bl, Dz.dunEq_int, Dz.dunEq_lst, Dz.dunEq_tup, Dz.dunEq_non, Dz.dunIn_ins, Dz.tBoolX_ins, Dz.w_notB, Dz.w_isB, Dz.wp_bnd, Dz.w_mod, Dz.w_div, Dz.w_itR, Dz.w_itR2, Dz.w_fldD, Dz.w_cm, Dz.w_mkL, Dz.w_isC, Dz.w_fldL, Dz.w_stL, Dz.w_len, Dz.dInts_ints, Dz.ints_len, Dz.w_asgL, Dz.wipeE, Dz.setAll, Dz.w_gset1, Dz.w_gset2, Dz.w_gset3, Dz.w_lam, List.map_cons, List.map_nil, List.length_cons, List.length_nil, List.replicate, List.cons_append, List.nil_append, List.append_nil, List.getElem?_cons_zero, List.getElem?_cons_succ, List.set_cons_zero, List.set_cons_succ, Nat.reduceAdd, Nat.reduceSub, Nat.zero_add, Nat.sub_zero, Bool.not_true, Bool.not_false, if_true, if_false, Bool.false_eq_true, reduceIte, decide_eq_true_eq, Option.map_some, Nat.reduceLeDiff, List.length_map, List.foldl_cons, List.foldl_nil]))
  refine wp_mono (pick_wp (d4.die h) ⟨_, .inl rfl⟩ (by simp [itemsOf]) (by simp [itemsOf])) ?_
  rintro _ S5 ⟨word, rfl, hw, d5⟩
  have d5 := d4.trans d5
  ((try rw [Dz.after_nx]); (simp (maxSteps := 4000000) (disch := first | omega | decide | assumption | (simp only [List.length_cons, List.length_nil, Nat.reduceAdd, Nat.reduceLeDiff]; done) | (simp only [List.length_cons, List.length_nil, List.length_map, Dz.ints_len]; omega)) only [Dz.wp_noE, Dz.noE_pur, Dz.w_var, Dz.w_c, Dz.w_op, Dz.w_ix, Dz.w_un, Dz.w_test, Dz.w_asB, Dz.w_not, Dz.w_and, Dz.w_or, Dz.w_if, Dz.w_sif, Dz.w_seq, Dz.after_rt, Dz.w_next, Dz.w_ret, Dz.w_set, Dz.w_drop, Dz.w_put, Dz.w_nil, Dz.w_cons, Dz.w_cb, Dz.w_call, Dz.w_tup, Dz.w_lst, Dz.w_cell, Dz.w_for, Dz.w_of, Dz.w_rg, Dz.w_new, Dz.w_newC, Dz.w_lc, Dz.w_join, Dz.w_isS, Dz.w_chain, Dz.w_eand, Dz.w_eor, Dz.w_enot, Dz.w_ltS, Dz.w_leS, Dz.w_is, Dz.w_isnot, Dz.w_inS, Dz.w_rpr, Dz.w_itS, Dz.w_itL, Dz.w_itLs, Dz.w_itT, Dz.w_add, Dz.w_sub, Dz.w_neg, Dz.w_lt, Dz.w_le, Dz.w_gt, Dz.w_ge, Dz.w_int, Dz.w_intb, Dz.w_abs, Dz.w_max, Dz.w_min, Dz.w_lenL, Dz.w_lenT, Dz.w_lenR, Dz.wp_pur, Dz.startE, Dz.w_dtup, Dz.w_dlst, Dz.asDs_nil, Dz.asDs_cons, Dz.w_some, Dz.w_kTup, Dz.w_kLst, Dz.w_addL, Dz.w_addT, Dz.w_sl, Dz.w_oNone, Dz.w_oSome, Dz.w_asI, Dz.w_slL, Dz.w_slT, Dz.w_zp, Dz.w_itZL, Dz.w_itZT, Dz.w_rg3, Dz.w_par, Dz.w_asg, Dz.w_asD, Dz.w_fld, Dz.w_sfd, Dz.w_mk, Dz.w_pro, Dz.w_isI, Dz.w_met, Dz.w_ncb, Dz.w_tupL, Dz.w_tupT, Dz.w_listL, Dz.w_listT, Dz.w_sorted, Dz.w_minI, Dz.w_itA, Dz.w_itAt, Dz.w_itAs, Dz.w_itAz, Dz.w_inT, Dz.w_inL, Dz.w_niT, Dz.w_inD, Dz.w_eqS, Dz.w_neS, Dz.w_eqI, Dz.w_neI, Dz.w_eqB, Dz.w_neB, Dz.w_eqL, Dz.w_neL, Dz.w_eqT, Dz.w_neT, Dz.dunNe_str, Dz.dunNe_bl, Dz.dunNe_int, Dz.dunNe_lst, Dz.dunNe_tup, Dz.dunNe_non, Dz.dunEq_str, Dz.dunEq_bl, Dz.dunEq_int, Dz.dunEq_lst, Dz.dunEq_tup, Dz.dunEq_non, Dz.dunIn_ins, Dz.tBoolX_ins, Dz.w_notB, Dz.w_isB, Dz.wp_bnd, Dz.w_mod, Dz.w_div, Dz.w_itR, Dz.w_itR2, Dz.w_fldD, Dz.w_cm, Dz.w_mkL, Dz.w_isC, Dz.w_fldL, Dz.w_stL, Dz.w_len, Dz.dInts_ints, Dz.ints_len, Dz.w_asgL, Dz.wipeE, Dz.setAll, Dz.w_gset1, Dz.w_gset2, Dz.w_gset3, Dz.w_lam, List.map_cons, List.map_nil, List.length_cons, List.length_nil, List.replicate, List.cons_append, List.nil_append, List.append_nil, List.getElem?_cons_zero, List.getElem?_cons_succ, List.set_cons_zero, List.set_cons_succ, Nat.reduceAdd, Nat.reduceSub, Nat.zero_add, Nat.sub_zero, Bool.not_true, Bool.not_false, if_true, if_false, Bool.false_eq_true, reduceIte, decide_eq_true_eq, Option.map_some, Nat.reduceLeDiff, List.length_map, List.foldl_cons, List.foldl_nil, plain_ones]))
  ((try rw [Dz.after_nx]); (simp (maxSteps := 4000000) (disch := first | omega | decide | assumption | (simp only [List.length_cons, List.length_nil, Nat.reduceAdd, Nat.reduceLeDiff]; done) | (simp only [List.length_cons, List.length_nil, List.length_map, Dz.ints_len]; omega)) only [Dz.wp_noE, Dz.noE_pur, Dz.w_var, Dz.w_c, Dz.w_op, Dz.w_ix, Dz.w_un, Dz.w_test, Dz.w_asB, Dz.w_not, Dz.w_and, Dz.w_or, Dz.w_if, Dz.w_sif, Dz.w_seq, Dz.after_rt, Dz.w_next, Dz.w_ret, Dz.w_set, Dz.w_drop, Dz.w_put, Dz.w_nil, Dz.w_cons, Dz.w_cb, Dz.w_call, Dz.w_tup, Dz.w_lst, Dz.w_cell, Dz.w_for, Dz.w_of, Dz.w_rg, Dz.w_new, Dz.w_newC, Dz.w_lc, Dz.w_join, Dz.w_isS, Dz.w_chain, Dz.w_eand, Dz.w_eor, Dz.w_enot, Dz.w_ltS, Dz.w_leS, Dz.w_is, Dz.w_isnot, Dz.w_inS, Dz.w_rpr, Dz.w_itS, Dz.w_itL, Dz.w_itLs, Dz.w_itT, Dz.w_add, Dz.w_sub, Dz.w_neg, Dz.w_lt, Dz.w_le, Dz.w_gt, Dz.w_ge, Dz.w_int, Dz.w_intb, Dz.w_abs, Dz.w_max, Dz.w_min, Dz.w_lenL, Dz.w_lenT, Dz.w_lenR, Dz.wp_pur, Dz.startE, Dz.w_dtup, Dz.w_dlst, Dz.asDs_nil, Dz.asDs_cons, Dz.w_some, Dz.w_kTup, Dz.w_kLst, Dz.w_addL, Dz.w_addT, Dz.w_sl, Dz.w_oNone, Dz.w_oSome, Dz.w_asI, Dz.w_slL, Dz.w_slT, Dz.w_zp, Dz.w_itZL, Dz.w_itZT, Dz.w_rg3, Dz.w_par, Dz.w_asg, Dz.w_asD, Dz.w_fld, Dz.w_sfd, Dz.w_mk, Dz.w_pro, Dz.w_isI, Dz.w_met, Dz.w_ncb, Dz.w_tupL, Dz.w_tupT, Dz.w_listL, Dz.w_listT, Dz.w_sorted, Dz.w_minI, Dz.w_itA, Dz.w_itAt, Dz.w_itAs, Dz.w_itAz, Dz.w_inT, Dz.w_inL, Dz.w_niT, Dz.w_inD, Dz.w_eqS, Dz.w_neS, Dz.w_eqI, Dz.w_neI, Dz.w_eqB, Dz.w_neB, Dz.w_eqL, Dz.w_neL, Dz.w_eqT, Dz.w_neT, Dz.dunNe_str, Dz.dunNe_bl, Dz.dunNe_int, Dz.dunNe_lst, Dz.dunNe_tup, Dz.dunNe_non, Dz.dunEq_str, Dz.dunEq_bl, Dz.dunEq_int, Dz.dunEq_lst, Dz.dunEq_tup, Dz.dunEq_non, Dz.dunIn_ins, Dz.tBoolX_ins, Dz.w_notB, Dz.w_isB, Dz.wp_bnd, Dz.w_mod, Dz.w_div, Dz.w_itR, Dz.w_itR2, Dz.w_fldD, Dz.w_cm, Dz.w_mkL, Dz.w_isC, Dz.w_fldL, Dz.w_stL, Dz.w_len, Dz.dInts_ints, Dz.ints_len, Dz.w_asgL, Dz.wipeE, Dz.setAll, Dz.w_gset1, Dz.w_gset2, Dz.w_gset3, Dz.w_lam, List.map_cons, List.map_nil, List.length_cons, List.length_nil, List.replicate, List.cons_append, List.nil_append, List.append_nil, List.getElem?_cons_zero, List.getElem?_cons_succ, List.set_cons_zero, List.set_cons_succ, Nat.reduceAdd, Nat.reduceSub, Nat.zero_add, Nat.sub_zero, Bool.not_true, Bool.not_false, if_true, if_false, Bool.false_eq_true, reduceIte, decide_eq_true_eq, Option.map_some, Nat.reduceLeDiff, List.length_map, List.foldl_cons, List.foldl_nil]))
  rw [pl_dep (by simp), wp_pur]
  rw [lcL_all (v := fun i => .lst [.int 0, .int i]) _ fun x hx => rfl, wp_pur, w_addL (by decide)]
  have ePD : [D.lst [.int 0]] ++ (upto 1 ((10 : Int) - 1).toNat).map (fun i => D.lst [.int 0, .int i]) = PD := rfl
  rw [ePD, ne_pd, wp_pur]
  ((try rw [Dz.after_nx]); (simp (maxSteps := 4000000) (disch := first | omega | decide | assumption | (simp only [List.length_cons, List.length_nil, Nat.reduceAdd, Nat.reduceLeDiff]; done) | (simp only [List.length_cons, List.length_nil, List.length_map, Dz.ints_len]; omega)) only [Dz.wp_noE, Dz.noE_pur, Dz.w_var, Dz.w_c, Dz.w_op, Dz.w_ix, Dz.w_un, Dz.w_test, Dz.w_asB, Dz.w_not, Dz.w_and, Dz.w_or, Dz.w_if, Dz.w_sif, Dz.w_seq, Dz.after_rt, Dz.w_next, Dz.w_ret, Dz.w_set, Dz.w_drop, Dz.w_put, Dz.w_nil, Dz.w_cons, Dz.w_cb, Dz.w_call, Dz.w_tup, Dz.w_lst, Dz.w_cell, Dz.w_for, Dz.w_of, Dz.w_rg, Dz.w_new, Dz.w_newC, Dz.w_lc, Dz.w_join, Dz.w_isS, Dz.w_chain, Dz.w_eand, Dz.w_eor, Dz.w_enot, Dz.w_ltS, Dz.w_leS, Dz.w_is, Dz.w_isnot, Dz.w_inS, Dz.w_rpr, Dz.w_itS, Dz.w_itL, Dz.w_itLs, Dz.w_itT, Dz.w_add, Dz.w_sub, Dz.w_neg, Dz.w_lt, Dz.w_le, Dz.w_gt, Dz.w_ge, Dz.w_int, Dz.w_intb, Dz.w_abs, Dz.w_max, Dz.w_min, Dz.w_lenL, Dz.w_lenT, Dz.w_lenR, Dz.wp_pur, Dz.startE, Dz.w_dtup, Dz.w_dlst, Dz.asDs_nil, Dz.asDs_cons, Dz.w_some, Dz.w_kTup, Dz.w_kLst, Dz.w_addL, Dz.w_addT, Dz.w_sl, Dz.w_oNone, Dz.w_oSome, Dz.w_asI, Dz.w_slL, Dz.w_slT, Dz.w_zp, Dz.w_itZL, Dz.w_itZT, Dz.w_rg3, Dz.w_par, Dz.w_asg, Dz.w_asD, Dz.w_fld, Dz.w_sfd, Dz.w_mk, Dz.w_pro, Dz.w_isI, Dz.w_met, Dz.w_ncb, Dz.w_tupL, Dz.w_tupT, Dz.w_listL, Dz.w_listT, Dz.w_sorted, Dz.w_minI, Dz.w_itA, Dz.w_itAt, Dz.w_itAs, Dz.w_itAz, Dz.w_inT, Dz.w_inL, Dz.w_niT, Dz.w_inD, Dz.w_eqS, Dz.w_neS, Dz.w_eqI, Dz.w_neI, Dz.w_eqB, Dz.w_neB, Dz.w_eqL, Dz.w_neL, Dz.w_eqT, Dz.w_neT, Dz.dunNe_str, Dz.dunNe_bl, Dz.dunNe_int, Dz.dunNe_lst, Dz.dunNe_tup, Dz.dunNe_non, Dz.dunEq_str, Dz.dunEq_bl, Dz.dunEq_int, Dz.dunEq_lst, Dz.dunEq_tup, Dz.dunEq_non, Dz.dunIn_ins, Dz.tBoolX_ins, Dz.w_notB, Dz.w_isB, Dz.wp_bnd, Dz.w_mod, Dz.w_div, Dz.w_itR, Dz.w_itR2, Dz.w_fldD, Dz.w_cm, Dz.w_mkL, Dz.w_isC, Dz.w_fldL, Dz.w_stL, Dz.w_len, Dz.dInts_ints, Dz.ints_len, Dz.w_asgL, Dz.wipeE, Dz.setAll, Dz.w_gset1, Dz.w_gset2, Dz.w_gset3, Dz.w_lam, List.map_cons, List.map_nil, List.length_cons, List.length_nil, List.replicate, List.cons_append, List.nil_append, List.append_nil, List.getElem?_cons_zero, List.getElem?_cons_succ, List.set_cons_zero, List.set_cons_succ, Nat.reduceAdd, Nat.reduceSub, Nat.zero_add, Nat.sub_zero, Bool.not_true, Bool.not_false, if_true, if_false, Bool.false_eq_true, reduceIte, decide_eq_true_eq, Option.map_some, Nat.reduceLeDiff, List.length_map, List.foldl_cons, List.foldl_nil]))
  ((try rw [Dz.after_nx]); (simp (maxSteps := 4000000) (disch := first | omega | decide | assumption | (simp only [List.length_cons, List.length_nil, Nat.reduceAdd, Nat.reduceLeDiff]; done) | (simp only [List.length_cons, List.length_nil, List.length_map, Dz.ints_len]; omega)) only [Dz.wp_noE, Dz.noE_pur, Dz.w_var, Dz.w_c, Dz.w_op, Dz.w_ix, Dz.w_un, Dz.w_test, Dz.w_asB, Dz.w_not, Dz.w_and, Dz.w_or, Dz.w_if, Dz.w_sif, Dz.w_seq, Dz.after_rt, Dz.w_next, Dz.w_ret, Dz.w_set, Dz.w_drop, Dz.w_put, Dz.w_nil, Dz.w_cons, Dz.w_cb, Dz.w_call, Dz.w_tup, Dz.w_lst, Dz.w_cell, Dz.w_for, Dz.w_of, Dz.w_rg, Dz.w_new, Dz.w_newC, Dz.w_lc, Dz.w_join, Dz.w_isS, Dz.w_chain, Dz.w_eand, Dz.w_eor, Dz.w_enot, Dz.w_ltS, Dz.w_leS, Dz.w_is, Dz.w_isnot, Dz.w_inS, Dz.w_rpr, Dz.w_itS, Dz.w_itL, Dz.w_itLs, Dz.w_itT, Dz.w_add, Dz.w_sub, Dz.w_neg, Dz.w_lt, Dz.w_le, Dz.w_gt, Dz.w_ge, Dz.w_int, Dz.w_intb, Dz.w_abs, Dz.w_max, Dz.w_min, Dz.w_lenL, Dz.w_lenT, Dz.w_lenR, Dz.wp_pur, Dz.startE, Dz.w_dtup, Dz.w_dlst, Dz.asDs_nil, Dz.asDs_cons, Dz.w_some, Dz.w_kTup, Dz.w_kLst, Dz.w_addL, Dz.w_addT, Dz.w_sl, Dz.w_oNone, Dz.w_oSome, Dz.w_asI, Dz.w_slL, Dz.w_slT, Dz.w_zp, Dz.w_itZL, Dz.w_itZT, Dz.w_rg3, Dz.w_par, Dz.w_asg, Dz.w_asD, Dz.w_fld, Dz.w_sfd, Dz.w_mk, Dz.w_pro, Dz.w_isI, Dz.w_met, Dz.w_ncb, Dz.w_tupL, Dz.w_tupT, Dz.w_listL, Dz.w_listT, Dz.w_sorted, Dz.w_minI, Dz.w_itA, Dz.w_itAt, Dz.w_itAs, Dz.w_itAz, Dz.w_inT, Dz.w_inL, Dz.w_niT, Dz.w_inD, Dz.w_eqS, Dz.w_neS, Dz.w_eqI, Dz.w_neI, Dz.w_eqB, Dz.w_neB, Dz.w_eqL, Dz.w_neL, Dz.w_eqT, Dz.w_neT, Dz.dunNe_str, Dz.dunNe_bl, Dz.dunNe_int, Dz.dunNe_lst, Dz.dunNe_tup, Dz.dunNe_non, Dz.dunEq_str, Dz.dunEq_bl, Dz.dunEq_int, Dz.dunEq_lst, Dz.dunEq_tup, Dz.dunEq_non, Dz.dunIn_ins, Dz.tBoolX_ins, Dz.w_notB, Dz.w_isB, Dz.wp_bnd, Dz.w_mod, Dz.w_div, Dz.w_itR, Dz.w_itR2, Dz.w_fldD, Dz.w_cm, Dz.w_mkL, Dz.w_isC, Dz.w_fldL, Dz.w_stL, Dz.w_len, Dz.dInts_ints, Dz.ints_len, Dz.w_asgL, Dz.wipeE, Dz.setAll, Dz.w_gset1, Dz.w_gset2, Dz.w_gset3, Dz.w_lam, List.map_cons, List.map_nil, List.length_cons, List.length_nil, List.replicate, List.cons_append, List.nil_append, List.append_nil, List.getElem?_cons_zero, List.getElem?_cons_succ, List.set_cons_zero, List.set_cons_succ, Nat.reduceAdd, Nat.reduceSub, Nat.zero_add, Nat.sub_zero, Bool.not_true, Bool.not_false, if_true, if_false, Bool.false_eq_true, reduceIte, decide_eq_true_eq, Option.map_some, Nat.reduceLeDiff, List.length_map, List.foldl_cons, List.foldl_nil]))
  rw [pl_oth (by simp), wp_pur]
  ((try rw [Dz.after_nx]); (simp (maxSteps := 4000000) (disch := first | omega | decide | assumption | (simp only [List.length_cons, List.length_nil, Nat.reduceAdd, Nat.reduceLeDiff]; done) | (simp only [List.length_cons, List.length_nil, List.length_map, Dz.ints_len]; omega)) only [Dz.wp_noE, Dz.noE_pur, Dz.w_var, Dz.w_c, Dz.w_op, Dz.w_ix, Dz.w_un, Dz.w_test, Dz.w_asB, Dz.w_not, Dz.w_and, Dz.w_or, Dz.w_if, Dz.w_sif, Dz.w_seq, Dz.after_rt, Dz.w_next, Dz.w_ret, Dz.w_set, Dz.w_drop, Dz.w_put, Dz.w_nil, Dz.w_cons, Dz.w_cb, Dz.w_call, Dz.w_tup, Dz.w_lst, Dz.w_cell, Dz.w_for, Dz.w_of, Dz.w_rg, Dz.w_new, Dz.w_newC, Dz.w_lc, Dz.w_join, Dz.w_isS, Dz.w_chain, Dz.w_eand, Dz.w_eor, Dz.w_enot, Dz.w_ltS, Dz.w_leS, Dz.w_is, Dz.w_isnot, Dz.w_inS, Dz.w_rpr, Dz.w_itS, Dz.w_itL, Dz.w_itLs, Dz.w_itT, Dz.w_add, Dz.w_sub, Dz.w_neg, Dz.w_lt, Dz.w_le, Dz.w_gt, Dz.w_ge, Dz.w_int, Dz.w_intb, Dz.w_abs, Dz.w_max, Dz.w_min, Dz.w_lenL, Dz.w_lenT, Dz.w_lenR, Dz.wp_pur, Dz.startE, Dz.w_dtup, Dz.w_dlst, Dz.asDs_nil, Dz.asDs_cons, Dz.w_some, Dz.w_kTup, Dz.w_kLst, Dz.w_addL, Dz.w_addT, Dz.w_sl, Dz.w_oNone, Dz.w_oSome, Dz.w_asI, Dz.w_slL, Dz.w_slT, Dz.w_zp, Dz.w_itZL, Dz.w_itZT, Dz.w_rg3, Dz.w_par, Dz.w_asg, Dz.w_asD, Dz.w_fld, Dz.w_sfd, Dz.w_mk, Dz.w_pro, Dz.w_isI, Dz.w_met, Dz.w_ncb, Dz.w_tupL, Dz.w_tupT, Dz.w_listL, Dz.w_listT, Dz.w_sorted, Dz.w_minI, Dz.w_itA, Dz.w_itAt, Dz.w_itAs, Dz.w_itAz, Dz.w_inT, Dz.w_inL, Dz.w_niT, Dz.w_inD, Dz.w_eqS, Dz.w_neS, Dz.w_eqI, Dz.w_neI, Dz.w_eqB, Dz.w_neB, Dz.w_eqL, Dz.w_neL, Dz.w_eqT, Dz.w_neT, Dz.dunNe_str, Dz.dunNe_bl, Dz.dunNe_int, Dz.dunNe_lst, Dz.dunNe_tup, Dz.dunNe_non, Dz.dunEq_str, Dz.dunEq_bl, Dz.dunEq_int, Dz.dunEq_lst, Dz.dunEq_tup, Dz.dunEq_non, Dz.dunIn_ins, Dz.tBoolX_ins, Dz.w_notB, Dz.w_isB, Dz.wp_bnd, Dz.w_mod, Dz.w_div, Dz.w_itR, Dz.w_itR2, Dz.w_fldD, Dz.w_cm, Dz.w_mkL, Dz.w_isC, Dz.w_fldL, Dz.w_stL, Dz.w_len, Dz.dInts_ints, Dz.ints_len, Dz.w_asgL, Dz.wipeE, Dz.setAll, Dz.w_gset1, Dz.w_gset2, Dz.w_gset3, Dz.w_lam, List.map_cons, List.map_nil, List.length_cons, List.length_nil, List.replicate, List.cons_append, List.nil_append, List.append_nil, List.getElem?_cons_zero, List.getElem?_cons_succ, List.set_cons_zero, List.set_cons_succ, Nat.reduceAdd, Nat.reduceSub, Nat.zero_add, Nat.sub_zero, Bool.not_true, Bool.not_false, if_true, if_false, Bool.false_eq_true, reduceIte, decide_eq_true_eq, Option.map_some, Nat.reduceLeDiff, List.length_map, List.foldl_cons, List.foldl_nil, mul_po, ne_po]))
  have x0 : ∀ (S : Sto) (Q : Vl → Sto → Prop), wp (gIx (.d (.lst [y0, y1, y2, y3, y4, y5, y6])) (.d (.int 0))) S Q ↔ Q (.d y0) S := fun S Q => w_ixL (i := 0) rfl
  have x1 : ∀ (S : Sto) (Q : Vl → Sto → Prop), wp (gIx (.d (.lst [y0, y1, y2, y3, y4, y5, y6])) (.d (.int 1))) S Q ↔ Q (.d y1) S := fun S Q => w_ixL (i := 1) rfl
  have x2 : ∀ (S : Sto) (Q : Vl → Sto → Prop), wp (gIx (.d (.lst [y0, y1, y2, y3, y4, y5, y6])) (.d (.int 2))) S Q ↔ Q (.d y2) S := fun S Q => w_ixL (i := 2) rfl
  have x3 : ∀ (S : Sto) (Q : Vl → Sto → Prop), wp (gIx (.d (.lst [y0, y1, y2, y3, y4, y5, y6])) (.d (.int 3))) S Q ↔ Q (.d y3) S := fun S Q => w_ixL (i := 3) rfl
  have x4 : ∀ (S : Sto) (Q : Vl → Sto → Prop), wp (gIx (.d (.lst [y0, y1, y2, y3, y4, y5, y6])) (.d (.int 4))) S Q ↔ Q (.d y4) S := fun S Q => w_ixL (i := 4) rfl
  have x5 : ∀ (S : Sto) (Q : Vl → Sto → Prop), wp (gIx (.d (.lst [y0, y1, y2, y3, y4, y5, y6])) (.d (.int 5))) S Q ↔ Q (.d y5) S := fun S Q => w_ixL (i := 5) rfl
  have x6 : ∀ (S : Sto) (Q : Vl → Sto → Prop), wp (gIx (.d (.lst [y0, y1, y2, y3, y4, y5, y6])) (.d (.int 6))) S Q ↔ Q (.d y6) S := fun S Q => w_ixL (i := 6) rfl
  have f0 : ∀ (S : Sto) (Q : Vl → Sto → Prop), wp (xfV ["ParseError"] "line" (.d (.exn "ParseError" [("line", y0)]))) S Q ↔ Q (.d y0) S := fun S Q => w_xfV (by simp)
  have f1 : ∀ (S : Sto) (Q : Vl → Sto → Prop), wp (xfV ["Refused", "UnknownName"] "name" (.d (.exn "UnknownName" [("name", y1)]))) S Q ↔ Q (.d y1) S := fun S Q => w_xfV (by simp)
  have f2 : ∀ (S : Sto) (Q : Vl → Sto → Prop), wp (xfV ["UnknownSite"] "site" (.d (.exn "UnknownSite" [("site", y2)]))) S Q ↔ Q (.d y2) S := fun S Q => w_xfV (by simp)
  have f3 : ∀ (S : Sto) (Q : Vl → Sto → Prop), wp (xfV ["InvalidNumber"] "value" (.d (.exn "InvalidNumber" [("value", y3)]))) S Q ↔ Q (.d y3) S := fun S Q => w_xfV (by simp)
  have f4 : ∀ (S : Sto) (Q : Vl → Sto → Prop), wp (xfV ["NothingToUndo"] "many" (.d (.exn "NothingToUndo" [("many", y4)]))) S Q ↔ Q (.d y4) S := fun S Q => w_xfV (by simp)
  have f5 : ∀ (S : Sto) (Q : Vl → Sto → Prop), wp (xfV ["Refused", "UnknownName"] "name" (.d (.exn "Refused" [("name", y5)]))) S Q ↔ Q (.d y5) S := fun S Q => w_xfV (by simp)
  have f6 : ∀ (S : Sto) (Q : Vl → Sto → Prop), wp (xfV ["TooMany"] "limit" (.d (.exn "TooMany" [("limit", y6)]))) S Q ↔ Q (.d y6) S := fun S Q => w_xfV (by simp)
  ((try rw [Dz.after_nx]); (simp (maxSteps := 4000000) (disch := first | omega | decide | assumption | (simp only [List.length_cons, List.length_nil, Nat.reduceAdd, Nat.reduceLeDiff]; done) | (simp only [List.length_cons, List.length_nil, List.length_map, Dz.ints_len]; omega)) only [Dz.wp_noE, Dz.noE_pur, Dz.w_var, Dz.w_c, Dz.w_op, Dz.w_ix, Dz.w_un, Dz.w_test, Dz.w_asB, Dz.w_not, Dz.w_and, Dz.w_or, Dz.w_if, Dz.w_sif, Dz.w_seq, Dz.after_rt, Dz.w_next, Dz.w_ret, Dz.w_set, Dz.w_drop, Dz.w_put, Dz.w_nil, Dz.w_cons, Dz.w_cb, Dz.w_call, Dz.w_tup, Dz.w_lst, Dz.w_cell, Dz.w_for, Dz.w_of, Dz.w_rg, Dz.w_new, Dz.w_newC, Dz.w_lc, Dz.w_join, Dz.w_isS, Dz.w_chain, Dz.w_eand, Dz.w_eor, Dz.w_enot, Dz.w_ltS, Dz.w_leS, Dz.w_is, Dz.w_isnot, Dz.w_inS, Dz.w_rpr, Dz.w_itS, Dz.w_itL, Dz.w_itLs, Dz.w_itT, Dz.w_add, Dz.w_sub, Dz.w_neg, Dz.w_lt, Dz.w_le, Dz.w_gt, Dz.w_ge, Dz.w_int, Dz.w_intb, Dz.w_abs, Dz.w_max, Dz.w_min, Dz.w_lenL, Dz.w_lenT, Dz.w_lenR, Dz.wp_pur, Dz.startE, Dz.w_dtup, Dz.w_dlst, Dz.asDs_nil, Dz.asDs_cons, Dz.w_some, Dz.w_kTup, Dz.w_kLst, Dz.w_addL, Dz.w_addT, Dz.w_sl, Dz.w_oNone, Dz.w_oSome, Dz.w_asI, Dz.w_slL, Dz.w_slT, Dz.w_zp, Dz.w_itZL, Dz.w_itZT, Dz.w_rg3, Dz.w_par, Dz.w_asg, Dz.w_asD, Dz.w_fld, Dz.w_sfd, Dz.w_mk, Dz.w_pro, Dz.w_isI, Dz.w_met, Dz.w_ncb, Dz.w_tupL, Dz.w_tupT, Dz.w_listL, Dz.w_listT, Dz.w_sorted, Dz.w_minI, Dz.w_itA, Dz.w_itAt, Dz.w_itAs, Dz.w_itAz, Dz.w_inT, Dz.w_inL, Dz.w_niT, Dz.w_inD, Dz.w_eqS, Dz.w_neS, Dz.w_eqI, Dz.w_neI, Dz.w_eqB, Dz.w_neB, Dz.w_eqL, Dz.w_neL, Dz.w_eqT, Dz.w_neT, Dz.dunNe_str, Dz.dunNe_bl, Dz.dunNe_int, Dz.dunNe_lst, Dz.dunNe_tup, Dz.dunNe_non, Dz.dunEq_str, Dz.dunEq_bl, Dz.dunEq_int, Dz.dunEq_lst, Dz.dunEq_tup, Dz.dunEq_non, Dz.dunIn_ins, Dz.tBoolX_ins, Dz.w_notB, Dz.w_isB, Dz.wp_bnd, Dz.w_mod, Dz.w_div, Dz.w_itR, Dz.w_itR2, Dz.w_fldD, Dz.w_cm, Dz.w_mkL, Dz.w_isC, Dz.w_fldL, Dz.w_stL, Dz.w_len, Dz.dInts_ints, Dz.ints_len, Dz.w_asgL, Dz.wipeE, Dz.setAll, Dz.w_gset1, Dz.w_gset2, Dz.w_gset3, Dz.w_lam, List.map_cons, List.map_nil, List.length_cons, List.length_nil, List.replicate, List.cons_append, List.nil_append, List.append_nil, List.getElem?_cons_zero, List.getElem?_cons_succ, List.set_cons_zero, List.set_cons_succ, Nat.reduceAdd, Nat.reduceSub, Nat.zero_add, Nat.sub_zero, Bool.not_true, Bool.not_false, if_true, if_false, Bool.false_eq_true, reduceIte, decide_eq_true_eq, Option.map_some, Nat.reduceLeDiff, List.length_map, List.foldl_cons, List.foldl_nil, w_exk, w_exkV, x0, x1]))
  ((try rw [Dz.after_nx]); (simp (maxSteps := 4000000) (disch := first | omega | decide | assumption | (simp only [List.length_cons, List.length_nil, Nat.reduceAdd, Nat.reduceLeDiff]; done) | (simp only [List.length_cons, List.length_nil, List.length_map, Dz.ints_len]; omega)) only [Dz.wp_noE, Dz.noE_pur, Dz.w_var, Dz.w_c, Dz.w_op, Dz.w_ix, Dz.w_un, Dz.w_test, Dz.w_asB, Dz.w_not, Dz.w_and, Dz.w_or, Dz.w_if, Dz.w_sif, Dz.w_seq, Dz.after_rt, Dz.w_next, Dz.w_ret, Dz.w_set, Dz.w_drop, Dz.w_put, Dz.w_nil, Dz.w_cons, Dz.w_cb, Dz.w_call, Dz.w_tup, Dz.w_lst, Dz.w_cell, Dz.w_for, Dz.w_of, Dz.w_rg, Dz.w_new, Dz.w_newC, Dz.w_lc, Dz.w_join, Dz.w_isS, Dz.w_chain, Dz.w_eand, Dz.w_eor, Dz.w_enot, Dz.w_ltS, Dz.w_leS, Dz.w_is, Dz.w_isnot, Dz.w_inS, Dz.w_rpr, Dz.w_itS, Dz.w_itL, Dz.w_itLs, Dz.w_itT, Dz.w_add, Dz.w_sub, Dz.w_neg, Dz.w_lt, Dz.w_le, Dz.w_gt, Dz.w_ge, Dz.w_int, Dz.w_intb, Dz.w_abs, Dz.w_max, Dz.w_min, Dz.w_lenL, Dz.w_lenT, Dz.w_lenR, Dz.wp_pur, Dz.startE, Dz.w_dtup, Dz.w_dlst, Dz.asDs_nil, Dz.asDs_cons, Dz.w_some, Dz.w_kTup, Dz.w_kLst, Dz.w_addL, Dz.w_addT, Dz.w_sl, Dz.w_oNone, Dz.w_oSome, Dz.w_asI, Dz.w_slL, Dz.w_slT, Dz.w_zp, Dz.w_itZL, Dz.w_itZT, Dz.w_rg3, Dz.w_par, Dz.w_asg, Dz.w_asD, Dz.w_fld, Dz.w_sfd, Dz.w_mk, Dz.w_pro, Dz.w_isI, Dz.w_met, Dz.w_ncb, Dz.w_tupL, Dz.w_tupT, Dz.w_listL, Dz.w_listT, Dz.w_sorted, Dz.w_minI, Dz.w_itA, Dz.w_itAt, Dz.w_itAs, Dz.w_itAz, Dz.w_inT, Dz.w_inL, Dz.w_niT, Dz.w_inD, Dz.w_eqS, Dz.w_neS, Dz.w_eqI, Dz.w_neI, Dz.w_eqB, Dz.w_neB, Dz.w_eqL, Dz.w_neL, Dz.w_eqT, Dz.w_neT, Dz.dunNe_str, Dz.dunNe_bl, Dz.dunNe_int, Dz.dunNe_lst, Dz.dunNe_tup, Dz.dunNe_non, Dz.dunEq_str, Dz.dunEq_bl, Dz.dunEq_int, Dz.dunEq_lst, Dz.dunEq_tup, Dz.dunEq_non, Dz.dunIn_ins, Dz.tBoolX_ins, Dz.w_notB, Dz.w_isB, Dz.wp_bnd, Dz.w_mod, Dz.w_div, Dz.w_itR, Dz.w_itR2, Dz.w_fldD, Dz.w_cm, Dz.w_mkL, Dz.w_isC, Dz.w_fldL, Dz.w_stL, Dz.w_len, Dz.dInts_ints, Dz.ints_len, Dz.w_asgL, Dz.wipeE, Dz.setAll, Dz.w_gset1, Dz.w_gset2, Dz.w_gset3, Dz.w_lam, List.map_cons, List.map_nil, List.length_cons, List.length_nil, List.replicate, List.cons_append, List.nil_append, List.append_nil, List.getElem?_cons_zero, List.getElem?_cons_succ, List.set_cons_zero, List.set_cons_succ, Nat.reduceAdd, Nat.reduceSub, Nat.zero_add, Nat.sub_zero, Bool.not_true, Bool.not_false, if_true, if_false, Bool.false_eq_true, reduceIte, decide_eq_true_eq, Option.map_some, Nat.reduceLeDiff, List.length_map, List.foldl_cons, List.foldl_nil, w_exk, w_exkV, x2]))
  ((try rw [Dz.after_nx]); (simp (maxSteps := 4000000) (disch := first | omega | decide | assumption | (simp only [List.length_cons, List.length_nil, Nat.reduceAdd, Nat.reduceLeDiff]; done) | (simp only [List.length_cons, List.length_nil, List.length_map, Dz.ints_len]; omega)) only [Dz.wp_noE, Dz.noE_pur, Dz.w_var, Dz.w_c, Dz.w_op, Dz.w_ix, Dz.w_un, Dz.w_test, Dz.w_asB, Dz.w_not, Dz.w_and, Dz.w_or, Dz.w_if, Dz.w_sif, Dz.w_seq, Dz.after_rt, Dz.w_next, Dz.w_ret, Dz.w_set, Dz.w_drop, Dz.w_put, Dz.w_nil, Dz.w_cons, Dz.w_cb, Dz.w_call, Dz.w_tup, Dz.w_lst, Dz.w_cell, Dz.w_for, Dz.w_of, Dz.w_rg, Dz.w_new, Dz.w_newC, Dz.w_lc, Dz.w_join, Dz.w_isS, Dz.w_chain, Dz.w_eand, Dz.w_eor, Dz.w_enot, Dz.w_ltS, Dz.w_leS, Dz.w_is, Dz.w_isnot, Dz.w_inS, Dz.w_rpr, Dz.w_itS, Dz.w_itL, Dz.w_itLs, Dz.w_itT, Dz.w_add, Dz.w_sub, Dz.w_neg, Dz.w_lt, Dz.w_le, Dz.w_gt, Dz.w_ge, Dz.w_int, Dz.w_intb, Dz.w_abs, Dz.w_max, Dz.w_min, Dz.w_lenL, Dz.w_lenT, Dz.w_lenR, Dz.wp_pur, Dz.startE, Dz.w_dtup, Dz.w_dlst, Dz.asDs_nil, Dz.asDs_cons, Dz.w_some, Dz.w_kTup, Dz.w_kLst, Dz.w_addL, Dz.w_addT, Dz.w_sl, Dz.w_oNone, Dz.w_oSome, Dz.w_asI, Dz.w_slL, Dz.w_slT, Dz.w_zp, Dz.w_itZL, Dz.w_itZT, Dz.w_rg3, Dz.w_par, Dz.w_asg, Dz.w_asD, Dz.w_fld, Dz.w_sfd, Dz.w_mk, Dz.w_pro, Dz.w_isI, Dz.w_met, Dz.w_ncb, Dz.w_tupL, Dz.w_tupT, Dz.w_listL, Dz.w_listT, Dz.w_sorted, Dz.w_minI, Dz.w_itA, Dz.w_itAt, Dz.w_itAs, Dz.w_itAz, Dz.w_inT, Dz.w_inL, Dz.w_niT, Dz.w_inD, Dz.w_eqS, Dz.w_neS, Dz.w_eqI, Dz.w_neI, Dz.w_eqB, Dz.w_neB, Dz.w_eqL, Dz.w_neL, Dz.w_eqT, Dz.w_neT, Dz.dunNe_str, Dz.dunNe_bl, Dz.dunNe_int, Dz.dunNe_lst, Dz.dunNe_tup, Dz.dunNe_non, Dz.dunEq_str, Dz.dunEq_bl, Dz.dunEq_int, Dz.dunEq_lst, Dz.dunEq_tup, Dz.dunEq_non, Dz.dunIn_ins, Dz.tBoolX_ins, Dz.w_notB, Dz.w_isB, Dz.wp_bnd, Dz.w_mod, Dz.w_div, Dz.w_itR, Dz.w_itR2, Dz.w_fldD, Dz.w_cm, Dz.w_mkL, Dz.w_isC, Dz.w_fldL, Dz.w_stL, Dz.w_len, Dz.dInts_ints, Dz.ints_len, Dz.w_asgL, Dz.wipeE, Dz.setAll, Dz.w_gset1, Dz.w_gset2, Dz.w_gset3, Dz.w_lam, List.map_cons, List.map_nil, List.length_cons, List.length_nil, List.replicate, List.cons_append, List.nil_append, List.append_nil, List.getElem?_cons_zero, List.getElem?_cons_succ, List.set_cons_zero, List.set_cons_succ, Nat.reduceAdd, Nat.reduceSub, Nat.zero_add, Nat.sub_zero, Bool.not_true, Bool.not_false, if_true, if_false, Bool.false_eq_true, reduceIte, decide_eq_true_eq, Option.map_some, Nat.reduceLeDiff, List.length_map, List.foldl_cons, List.foldl_nil, w_exk, w_exkV, x3, x4]))
  ((try rw [Dz.after_nx]); (simp (maxSteps := 4000000) (disch := first | omega | decide | assumption | (simp only [List.length_cons, List.length_nil, Nat.reduceAdd, Nat.reduceLeDiff]; done) | (simp only [List.length_cons, List.length_nil, List.length_map, Dz.ints_len]; omega)) only [Dz.wp_noE, Dz.noE_pur, Dz.w_var, Dz.w_c, Dz.w_op, Dz.w_ix, Dz.w_un, Dz.w_test, Dz.w_asB, Dz.w_not, Dz.w_and, Dz.w_or, Dz.w_if, Dz.w_sif, Dz.w_seq, Dz.after_rt, Dz.w_next, Dz.w_ret, Dz.w_set, Dz.w_drop, Dz.w_put, Dz.w_nil, Dz.w_cons, Dz.w_cb, Dz.w_call, Dz.w_tup, Dz.w_lst, Dz.w_cell, Dz.w_for, Dz.w_of, Dz.w_rg, Dz.w_new, Dz.w_newC, Dz.w_lc, Dz.w_join, Dz.w_isS, Dz.w_chain, Dz.w_eand, Dz.w_eor, Dz.w_enot, Dz.w_ltS, Dz.w_leS, Dz.w_is, Dz.w_isnot, Dz.w_inS, Dz.w_rpr, Dz.w_itS, Dz.w_itL, Dz.w_itLs, Dz.w_itT, Dz.w_add, Dz.w_sub, Dz.w_neg, Dz.w_lt, Dz.w_le, Dz.w_gt, Dz.w_ge, Dz.w_int, Dz.w_intb, Dz.w_abs, Dz.w_max, Dz.w_min, Dz.w_lenL, Dz.w_lenT, Dz.w_lenR, Dz.wp_pur, Dz.startE, Dz.w_dtup, Dz.w_dlst, Dz.asDs_nil, Dz.asDs_cons, Dz.w_some, Dz.w_kTup, Dz.w_kLst, Dz.w_addL, Dz.w_addT, Dz.w_sl, Dz.w_oNone, Dz.w_oSome, Dz.w_asI, Dz.w_slL, Dz.w_slT, Dz.w_zp, Dz.w_itZL, Dz.w_itZT, Dz.w_rg3, Dz.w_par, Dz.w_asg, Dz.w_asD, Dz.w_fld, Dz.w_sfd, Dz.w_mk, Dz.w_pro, Dz.w_isI, Dz.w_met, Dz.w_ncb, Dz.w_tupL, Dz.w_tupT, Dz.w_listL, Dz.w_listT, Dz.w_sorted, Dz.w_minI, Dz.w_itA, Dz.w_itAt, Dz.w_itAs, Dz.w_itAz, Dz.w_inT, Dz.w_inL, Dz.w_niT, Dz.w_inD, Dz.w_eqS, Dz.w_neS, Dz.w_eqI, Dz.w_neI, Dz.w_eqB, Dz.w_neB, Dz.w_eqL, Dz.w_neL, Dz.w_eqT, Dz.w_neT, Dz.dunNe_str, Dz.dunNe_bl, Dz.dunNe_int, Dz.dunNe_lst, Dz.dunNe_tup, Dz.dunNe_non, Dz.dunEq_str, Dz.dunEq_bl, Dz.dunEq_int, Dz.dunEq_lst, Dz.dunEq_tup, Dz.dunEq_non, Dz.dunIn_ins, Dz.tBoolX_ins, Dz.w_notB, Dz.w_isB, Dz.wp_bnd, Dz.w_mod, Dz.w_div, Dz.w_itR, Dz.w_itR2, Dz.w_fldD, Dz.w_cm, Dz.w_mkL, Dz.w_isC, Dz.w_fldL, Dz.w_stL, Dz.w_len, Dz.dInts_ints, Dz.ints_len, Dz.w_asgL, Dz.wipeE, Dz.setAll, Dz.w_gset1, Dz.w_gset2, Dz.w_gset3, Dz.w_lam, List.map_cons, List.map_nil, List.length_cons, List.length_nil, List.replicate, List.cons_append, List.nil_append, List.append_nil, List.getElem?_cons_zero, List.getElem?_cons_succ, List.set_cons_zero, List.set_cons_succ, Nat.reduceAdd, Nat.reduceSub, Nat.zero_add, Nat.sub_zero, Bool.not_true, Bool.not_false, if_true, if_false, Bool.false_eq_true, reduceIte, decide_eq_true_eq, Option.map_some, Nat.reduceLeDiff, List.length_map, List.foldl_cons, List.foldl_nil, w_exk, w_exkV, x5, x6]))
  ((try rw [Dz.after_nx]); (simp (maxSteps := 4000000) (disch := first | omega | decide | assumption | (simp only [List.length_cons, List.length_nil, Nat.reduceAdd, Nat.reduceLeDiff]; done) | (simp only [List.length_cons, List.length_nil, List.length_map, Dz.ints_len]; omega)) only [Dz.wp_noE, Dz.noE_pur, Dz.w_var, Dz.w_c, Dz.w_op, Dz.w_ix, Dz.w_un, Dz.w_test, Dz.w_asB, Dz.w_not, Dz.w_and, Dz.w_or, Dz.w_if, Dz.w_sif, Dz.w_seq, Dz.after_rt, Dz.w_next, Dz.w_ret, Dz.w_set, Dz.w_drop, Dz.w_put, Dz.w_nil, Dz.w_cons, Dz.w_cb, Dz.w_call, Dz.w_tup, Dz.w_lst, Dz.w_cell, Dz.w_for, Dz.w_of, Dz.w_rg, Dz.w_new, Dz.w_newC, Dz.w_lc, Dz.w_join, Dz.w_isS, Dz.w_chain, Dz.w_eand, Dz.w_eor, Dz.w_enot, Dz.w_ltS, Dz.w_leS, Dz.w_is, Dz.w_isnot, Dz.w_inS, Dz.w_rpr, Dz.w_itS, Dz.w_itL, Dz.w_itLs, Dz.w_itT, Dz.w_add, Dz.w_sub, Dz.w_neg, Dz.w_lt, Dz.w_le, Dz.w_gt, Dz.w_ge, Dz.w_int, Dz.w_intb, Dz.w_abs, Dz.w_max, Dz.w_min, Dz.w_lenL, Dz.w_lenT, Dz.w_lenR, Dz.wp_pur, Dz.startE, Dz.w_dtup, Dz.w_dlst, Dz.asDs_nil, Dz.asDs_cons, Dz.w_some, Dz.w_kTup, Dz.w_kLst, Dz.w_addL, Dz.w_addT, Dz.w_sl, Dz.w_oNone, Dz.w_oSome, Dz.w_asI, Dz.w_slL, Dz.w_slT, Dz.w_zp, Dz.w_itZL, Dz.w_itZT, Dz.w_rg3, Dz.w_par, Dz.w_asg, Dz.w_asD, Dz.w_fld, Dz.w_sfd, Dz.w_mk, Dz.w_pro, Dz.w_isI, Dz.w_met, Dz.w_ncb, Dz.w_tupL, Dz.w_tupT, Dz.w_listL, Dz.w_listT, Dz.w_sorted, Dz.w_minI, Dz.w_itA, Dz.w_itAt, Dz.w_itAs, Dz.w_itAz, Dz.w_inT, Dz.w_inL, Dz.w_niT, Dz.w_inD, Dz.w_eqS, Dz.w_neS, Dz.w_eqI, Dz.w_neI, Dz.w_eqB, Dz.w_neB, Dz.w_eqL, Dz.w_neL, Dz.w_eqT, Dz.w_neT, Dz.dunNe_str, Dz.dunNe_bl, Dz.dunNe_int, Dz.dunNe_lst, Dz.dunNe_tup, Dz.dunNe_non, Dz.dunEq_str, Dz.dunEq_bl, Dz.dunEq_int, Dz.dunEq_lst, Dz.dunEq_tup, Dz.dunEq_non, Dz.dunIn_ins, Dz.tBoolX_ins, Dz.w_notB, Dz.w_isB, Dz.wp_bnd, Dz.w_mod, Dz.w_div, Dz.w_itR, Dz.w_itR2, Dz.w_fldD, Dz.w_cm, Dz.w_mkL, Dz.w_isC, Dz.w_fldL, Dz.w_stL, Dz.w_len, Dz.dInts_ints, Dz.ints_len, Dz.w_asgL, Dz.wipeE, Dz.setAll, Dz.w_gset1, Dz.w_gset2, Dz.w_gset3, Dz.w_lam, List.map_cons, List.map_nil, List.length_cons, List.length_nil, List.replicate, List.cons_append, List.nil_append, List.append_nil, List.getElem?_cons_zero, List.getElem?_cons_succ, List.set_cons_zero, List.set_cons_succ, Nat.reduceAdd, Nat.reduceSub, Nat.zero_add, Nat.sub_zero, Bool.not_true, Bool.not_false, if_true, if_false, Bool.false_eq_true, reduceIte, decide_eq_true_eq, Option.map_some, Nat.reduceLeDiff, List.length_map, List.foldl_cons, List.foldl_nil, w_xf, f0, f1, f2, f3, f4, f5, f6]))
  have ez : ∀ (S : Sto) (Q : Vl → Sto → Prop), wp (cNeX (.d (.str z)) (.d (.str z))) S Q ↔ Q (.d (.bl false)) S := fun S Q => by
    rw [w_neS, beq_self_eq_true]; rfl
  ((try rw [Dz.after_nx]); (simp (maxSteps := 4000000) (disch := first | omega | decide | assumption | (simp only [List.length_cons, List.length_nil, Nat.reduceAdd, Nat.reduceLeDiff]; done) | (simp only [List.length_cons, List.length_nil, List.length_map, Dz.ints_len]; omega)) only [Dz.wp_noE, Dz.noE_pur, Dz.w_var, Dz.w_c, Dz.w_op, Dz.w_ix, Dz.w_un, Dz.w_test, Dz.w_asB, Dz.w_not, Dz.w_and, Dz.w_or, Dz.w_if, Dz.w_sif, Dz.w_seq, Dz.after_rt, Dz.w_next, Dz.w_ret, Dz.w_set, Dz.w_drop, Dz.w_put, Dz.w_nil, Dz.w_cons, Dz.w_cb, Dz.w_call, Dz.w_tup, Dz.w_lst, Dz.w_cell, Dz.w_for, Dz.w_of, Dz.w_rg, Dz.w_new, Dz.w_newC, Dz.w_lc, Dz.w_join, Dz.w_isS, Dz.w_chain, Dz.w_eand, Dz.w_eor, Dz.w_enot, Dz.w_ltS, Dz.w_leS, Dz.w_is, Dz.w_isnot, Dz.w_inS, Dz.w_rpr, Dz.w_itS, Dz.w_itL, Dz.w_itLs, Dz.w_itT, Dz.w_add, Dz.w_sub, Dz.w_neg, Dz.w_lt, Dz.w_le, Dz.w_gt, Dz.w_ge, Dz.w_int, Dz.w_intb, Dz.w_abs, Dz.w_max, Dz.w_min, Dz.w_lenL, Dz.w_lenT, Dz.w_lenR, Dz.wp_pur, Dz.startE, Dz.w_dtup, Dz.w_dlst, Dz.asDs_nil, Dz.asDs_cons, Dz.w_some, Dz.w_kTup, Dz.w_kLst, Dz.w_addL, Dz.w_addT, Dz.w_sl, Dz.w_oNone, Dz.w_oSome, Dz.w_asI, Dz.w_slL, Dz.w_slT, Dz.w_zp, Dz.w_itZL, Dz.w_itZT, Dz.w_rg3, Dz.w_par, Dz.w_asg, Dz.w_asD, Dz.w_fld, Dz.w_sfd, Dz.w_mk, Dz.w_pro, Dz.w_isI, Dz.w_met, Dz.w_ncb, Dz.w_tupL, Dz.w_tupT, Dz.w_listL, Dz.w_listT, Dz.w_sorted, Dz.w_minI, Dz.w_itA, Dz.w_itAt, Dz.w_itAs, Dz.w_itAz, Dz.w_inT, Dz.w_inL, Dz.w_niT, Dz.w_inD, Dz.w_eqS, Dz.w_neS, Dz.w_eqI, Dz.w_neI, Dz.w_eqB, Dz.w_neB, Dz.w_eqL, Dz.w_neL, Dz.w_eqT, Dz.w_neT, Dz.dunNe_str, Dz.dunNe_bl, Dz.dunNe_int, Dz.dunNe_lst, Dz.dunNe_tup, Dz.dunNe_non, Dz.dunEq_str, Dz.dunEq_bl, Dz.dunEq_int, Dz.dunEq_lst, Dz.dunEq_tup, Dz.dunEq_non, Dz.dunIn_ins, Dz.tBoolX_ins, Dz.w_notB, Dz.w_isB, Dz.wp_bnd, Dz.w_mod, Dz.w_div, Dz.w_itR, Dz.w_itR2, Dz.w_fldD, Dz.w_cm, Dz.w_mkL, Dz.w_isC, Dz.w_fldL, Dz.w_stL, Dz.w_len, Dz.dInts_ints, Dz.ints_len, Dz.w_asgL, Dz.wipeE, Dz.setAll, Dz.w_gset1, Dz.w_gset2, Dz.w_gset3, Dz.w_lam, List.map_cons, List.map_nil, List.length_cons, List.length_nil, List.replicate, List.cons_append, List.nil_append, List.append_nil, List.getElem?_cons_zero, List.getElem?_cons_succ, List.set_cons_zero, List.set_cons_succ, Nat.reduceAdd, Nat.reduceSub, Nat.zero_add, Nat.sub_zero, Bool.not_true, Bool.not_false, if_true, if_false, Bool.false_eq_true, reduceIte, decide_eq_true_eq, Option.map_some, Nat.reduceLeDiff, List.length_map, List.foldl_cons, List.foldl_nil, hz, ez, dp_ParseError, ne_d1]))
  ((try rw [Dz.after_nx]); (simp (maxSteps := 4000000) (disch := first | omega | decide | assumption | (simp only [List.length_cons, List.length_nil, Nat.reduceAdd, Nat.reduceLeDiff]; done) | (simp only [List.length_cons, List.length_nil, List.length_map, Dz.ints_len]; omega)) only [Dz.wp_noE, Dz.noE_pur, Dz.w_var, Dz.w_c, Dz.w_op, Dz.w_ix, Dz.w_un, Dz.w_test, Dz.w_asB, Dz.w_not, Dz.w_and, Dz.w_or, Dz.w_if, Dz.w_sif, Dz.w_seq, Dz.after_rt, Dz.w_next, Dz.w_ret, Dz.w_set, Dz.w_drop, Dz.w_put, Dz.w_nil, Dz.w_cons, Dz.w_cb, Dz.w_call, Dz.w_tup, Dz.w_lst, Dz.w_cell, Dz.w_for, Dz.w_of, Dz.w_rg, Dz.w_new, Dz.w_newC, Dz.w_lc, Dz.w_join, Dz.w_isS, Dz.w_chain, Dz.w_eand, Dz.w_eor, Dz.w_enot, Dz.w_ltS, Dz.w_leS, Dz.w_is, Dz.w_isnot, Dz.w_inS, Dz.w_rpr, Dz.w_itS, Dz.w_itL, Dz.w_itLs, Dz.w_itT, Dz.w_add, Dz.w_sub, Dz.w_neg, Dz.w_lt, Dz.w_le, Dz.w_gt, Dz.w_ge, Dz.w_int, Dz.w_intb, Dz.w_abs, Dz.w_max, Dz.w_min, Dz.w_lenL, Dz.w_lenT, Dz.w_lenR, Dz.wp_pur, Dz.startE, Dz.w_dtup, Dz.w_dlst, Dz.asDs_nil, Dz.asDs_cons, Dz.w_some, Dz.w_kTup, Dz.w_kLst, Dz.w_addL, Dz.w_addT, Dz.w_sl, Dz.w_oNone, Dz.w_oSome, Dz.w_asI, Dz.w_slL, Dz.w_slT, Dz.w_zp, Dz.w_itZL, Dz.w_itZT, Dz.w_rg3, Dz.w_par, Dz.w_asg, Dz.w_asD, Dz.w_fld, Dz.w_sfd, Dz.w_mk, Dz.w_pro, Dz.w_isI, Dz.w_met, Dz.w_ncb, Dz.w_tupL, Dz.w_tupT, Dz.w_listL, Dz.w_listT, Dz.w_sorted, Dz.w_minI, Dz.w_itA, Dz.w_itAt, Dz.w_itAs, Dz.w_itAz, Dz.w_inT, Dz.w_inL, Dz.w_niT, Dz.w_inD, Dz.w_eqS, Dz.w_neS, Dz.w_eqI, Dz.w_neI, Dz.w_eqB, Dz.w_neB, Dz.w_eqL, Dz.w_neL, Dz.w_eqT, Dz.w_neT, Dz.dunNe_str, Dz.dunNe_bl, Dz.dunNe_int, Dz.dunNe_lst, Dz.dunNe_tup, Dz.dunNe_non, Dz.dunEq_str, Dz.dunEq_bl, Dz.dunEq_int, Dz.dunEq_lst, Dz.dunEq_tup, Dz.dunEq_non, Dz.dunIn_ins, Dz.tBoolX_ins, Dz.w_notB, Dz.w_isB, Dz.wp_bnd, Dz.w_mod, Dz.w_div, Dz.w_itR, Dz.w_itR2, Dz.w_fldD, Dz.w_cm, Dz.w_mkL, Dz.w_isC, Dz.w_fldL, Dz.w_stL, Dz.w_len, Dz.dInts_ints, Dz.ints_len, Dz.w_asgL, Dz.wipeE, Dz.setAll, Dz.w_gset1, Dz.w_gset2, Dz.w_gset3, Dz.w_lam, List.map_cons, List.map_nil, List.length_cons, List.length_nil, List.replicate, List.cons_append, List.nil_append, List.append_nil, List.getElem?_cons_zero, List.getElem?_cons_succ, List.set_cons_zero, List.set_cons_succ, Nat.reduceAdd, Nat.reduceSub, Nat.zero_add, Nat.sub_zero, Bool.not_true, Bool.not_false, if_true, if_false, Bool.false_eq_true, reduceIte, decide_eq_true_eq, Option.map_some, Nat.reduceLeDiff, List.length_map, List.foldl_cons, List.foldl_nil, ot_ParseError, ne_o1]))
  ((try rw [Dz.after_nx]); (simp (maxSteps := 4000000) (disch := first | omega | decide | assumption | (simp only [List.length_cons, List.length_nil, Nat.reduceAdd, Nat.reduceLeDiff]; done) | (simp only [List.length_cons, List.length_nil, List.length_map, Dz.ints_len]; omega)) only [Dz.wp_noE, Dz.noE_pur, Dz.w_var, Dz.w_c, Dz.w_op, Dz.w_ix, Dz.w_un, Dz.w_test, Dz.w_asB, Dz.w_not, Dz.w_and, Dz.w_or, Dz.w_if, Dz.w_sif, Dz.w_seq, Dz.after_rt, Dz.w_next, Dz.w_ret, Dz.w_set, Dz.w_drop, Dz.w_put, Dz.w_nil, Dz.w_cons, Dz.w_cb, Dz.w_call, Dz.w_tup, Dz.w_lst, Dz.w_cell, Dz.w_for, Dz.w_of, Dz.w_rg, Dz.w_new, Dz.w_newC, Dz.w_lc, Dz.w_join, Dz.w_isS, Dz.w_chain, Dz.w_eand, Dz.w_eor, Dz.w_enot, Dz.w_ltS, Dz.w_leS, Dz.w_is, Dz.w_isnot, Dz.w_inS, Dz.w_rpr, Dz.w_itS, Dz.w_itL, Dz.w_itLs, Dz.w_itT, Dz.w_add, Dz.w_sub, Dz.w_neg, Dz.w_lt, Dz.w_le, Dz.w_gt, Dz.w_ge, Dz.w_int, Dz.w_intb, Dz.w_abs, Dz.w_max, Dz.w_min, Dz.w_lenL, Dz.w_lenT, Dz.w_lenR, Dz.wp_pur, Dz.startE, Dz.w_dtup, Dz.w_dlst, Dz.asDs_nil, Dz.asDs_cons, Dz.w_some, Dz.w_kTup, Dz.w_kLst, Dz.w_addL, Dz.w_addT, Dz.w_sl, Dz.w_oNone, Dz.w_oSome, Dz.w_asI, Dz.w_slL, Dz.w_slT, Dz.w_zp, Dz.w_itZL, Dz.w_itZT, Dz.w_rg3, Dz.w_par, Dz.w_asg, Dz.w_asD, Dz.w_fld, Dz.w_sfd, Dz.w_mk, Dz.w_pro, Dz.w_isI, Dz.w_met, Dz.w_ncb, Dz.w_tupL, Dz.w_tupT, Dz.w_listL, Dz.w_listT, Dz.w_sorted, Dz.w_minI, Dz.w_itA, Dz.w_itAt, Dz.w_itAs, Dz.w_itAz, Dz.w_inT, Dz.w_inL, Dz.w_niT, Dz.w_inD, Dz.w_eqS, Dz.w_neS, Dz.w_eqI, Dz.w_neI, Dz.w_eqB, Dz.w_neB, Dz.w_eqL, Dz.w_neL, Dz.w_eqT, Dz.w_neT, Dz.dunNe_str, Dz.dunNe_bl, Dz.dunNe_int, Dz.dunNe_lst, Dz.dunNe_tup, Dz.dunNe_non, Dz.dunEq_str, Dz.dunEq_bl, Dz.dunEq_int, Dz.dunEq_lst, Dz.dunEq_tup, Dz.dunEq_non, Dz.dunIn_ins, Dz.tBoolX_ins, Dz.w_notB, Dz.w_isB, Dz.wp_bnd, Dz.w_mod, Dz.w_div, Dz.w_itR, Dz.w_itR2, Dz.w_fldD, Dz.w_cm, Dz.w_mkL, Dz.w_isC, Dz.w_fldL, Dz.w_stL, Dz.w_len, Dz.dInts_ints, Dz.ints_len, Dz.w_asgL, Dz.wipeE, Dz.setAll, Dz.w_gset1, Dz.w_gset2, Dz.w_gset3, Dz.w_lam, List.map_cons, List.map_nil, List.length_cons, List.length_nil, List.replicate, List.cons_append, List.nil_append, List.append_nil, List.getElem?_cons_zero, List.getElem?_cons_succ, List.set_cons_zero, List.set_cons_succ, Nat.reduceAdd, Nat.reduceSub, Nat.zero_add, Nat.sub_zero, Bool.not_true, Bool.not_false, if_true, if_false, Bool.false_eq_true, reduceIte, decide_eq_true_eq, Option.map_some, Nat.reduceLeDiff, List.length_map, List.foldl_cons, List.foldl_nil]))
  ((try rw [Dz.after_nx]); (simp (maxSteps := 4000000) (disch := first | omega | decide | assumption | (simp only [List.length_cons, List.length_nil, Nat.reduceAdd, Nat.reduceLeDiff]; done) | (simp only [List.length_cons, List.length_nil, List.length_map, Dz.ints_len]; omega)) only [Dz.wp_noE, Dz.noE_pur, Dz.w_var, Dz.w_c, Dz.w_op, Dz.w_ix, Dz.w_un, Dz.w_test, Dz.w_asB, Dz.w_not, Dz.w_and, Dz.w_or, Dz.w_if, Dz.w_sif, Dz.w_seq, Dz.after_rt, Dz.w_next, Dz.w_ret, Dz.w_set, Dz.w_drop, Dz.w_put, Dz.w_nil, Dz.w_cons, Dz.w_cb, Dz.w_call, Dz.w_tup, Dz.w_lst, Dz.w_cell, Dz.w_for, Dz.w_of, Dz.w_rg, Dz.w_new, Dz.w_newC, Dz.w_lc, Dz.w_join, Dz.w_isS, Dz.w_chain, Dz.w_eand, Dz.w_eor, Dz.w_enot, Dz.w_ltS, Dz.w_leS, Dz.w_is, Dz.w_isnot, Dz.w_inS, Dz.w_rpr, Dz.w_itS, Dz.w_itL, Dz.w_itLs, Dz.w_itT, Dz.w_add, Dz.w_sub, Dz.w_neg, Dz.w_lt, Dz.w_le, Dz.w_gt, Dz.w_ge, Dz.w_int, Dz.w_intb, Dz.w_abs, Dz.w_max, Dz.w_min, Dz.w_lenL, Dz.w_lenT, Dz.w_lenR, Dz.wp_pur, Dz.startE, Dz.w_dtup, Dz.w_dlst, Dz.asDs_nil, Dz.asDs_cons, Dz.w_some, Dz.w_kTup, Dz.w_kLst, Dz.w_addL, Dz.w_addT, Dz.w_sl, Dz.w_oNone, Dz.w_oSome, Dz.w_asI, Dz.w_slL, Dz.w_slT, Dz.w_zp, Dz.w_itZL, Dz.w_itZT, Dz.w_rg3, Dz.w_par, Dz.w_asg, Dz.w_asD, Dz.w_fld, Dz.w_sfd, Dz.w_mk, Dz.w_pro, Dz.w_isI, Dz.w_met, Dz.w_ncb, Dz.w_tupL, Dz.w_tupT, Dz.w_listL, Dz.w_listT, Dz.w_sorted, Dz.w_minI, Dz.w_itA, Dz.w_itAt, Dz.w_itAs, Dz.w_itAz, Dz.w_inT, Dz.w_inL, Dz.w_niT, Dz.w_inD, Dz.w_eqS, Dz.w_neS, Dz.w_eqI, Dz.w_neI, Dz.w_eqB, Dz.w_neB, Dz.w_eqL, Dz.w_neL, Dz.w_eqT, Dz.w_neT, Dz.dunNe_str, Dz.dunNe_bl, Dz.dunNe_int, Dz.dunNe_lst, Dz.dunNe_tup, Dz.dunNe_non, Dz.dunEq_str, Dz.dunEq_bl, Dz.dunEq_int, Dz.dunEq_lst, Dz.dunEq_tup, Dz.dunEq_non, Dz.dunIn_ins, Dz.tBoolX_ins, Dz.w_notB, Dz.w_isB, Dz.wp_bnd, Dz.w_mod, Dz.w_div, Dz.w_itR, Dz.w_itR2, Dz.w_fldD, Dz.w_cm, Dz.w_mkL, Dz.w_isC, Dz.w_fldL, Dz.w_stL, Dz.w_len, Dz.dInts_ints, Dz.ints_len, Dz.w_asgL, Dz.wipeE, Dz.setAll, Dz.w_gset1, Dz.w_gset2, Dz.w_gset3, Dz.w_lam, List.map_cons, List.map_nil, List.length_cons, List.length_nil, List.replicate, List.cons_append, List.nil_append, List.append_nil, List.getElem?_cons_zero, List.getElem?_cons_succ, List.set_cons_zero, List.set_cons_succ, Nat.reduceAdd, Nat.reduceSub, Nat.zero_add, Nat.sub_zero, Bool.not_true, Bool.not_false, if_true, if_false, Bool.false_eq_true, reduceIte, decide_eq_true_eq, Option.map_some, Nat.reduceLeDiff, List.length_map, List.foldl_cons, List.foldl_nil]))
  rw [kp_dep (by simp), wp_pur]
  ((try rw [Dz.after_nx]); (simp (maxSteps := 4000000) (disch := first | omega | decide | assumption | (simp only [List.length_cons, List.length_nil, Nat.reduceAdd, Nat.reduceLeDiff]; done) | (simp only [List.length_cons, List.length_nil, List.length_map, Dz.ints_len]; omega)) only [Dz.wp_noE, Dz.noE_pur, Dz.w_var, Dz.w_c, Dz.w_op, Dz.w_ix, Dz.w_un, Dz.w_test, Dz.w_asB, Dz.w_not, Dz.w_and, Dz.w_or, Dz.w_if, Dz.w_sif, Dz.w_seq, Dz.after_rt, Dz.w_next, Dz.w_ret, Dz.w_set, Dz.w_drop, Dz.w_put, Dz.w_nil, Dz.w_cons, Dz.w_cb, Dz.w_call, Dz.w_tup, Dz.w_lst, Dz.w_cell, Dz.w_for, Dz.w_of, Dz.w_rg, Dz.w_new, Dz.w_newC, Dz.w_lc, Dz.w_join, Dz.w_isS, Dz.w_chain, Dz.w_eand, Dz.w_eor, Dz.w_enot, Dz.w_ltS, Dz.w_leS, Dz.w_is, Dz.w_isnot, Dz.w_inS, Dz.w_rpr, Dz.w_itS, Dz.w_itL, Dz.w_itLs, Dz.w_itT, Dz.w_add, Dz.w_sub, Dz.w_neg, Dz.w_lt, Dz.w_le, Dz.w_gt, Dz.w_ge, Dz.w_int, Dz.w_intb, Dz.w_abs, Dz.w_max, Dz.w_min, Dz.w_lenL, Dz.w_lenT, Dz.w_lenR, Dz.wp_pur, Dz.startE, Dz.w_dtup, Dz.w_dlst, Dz.asDs_nil, Dz.asDs_cons, Dz.w_some, Dz.w_kTup, Dz.w_kLst, Dz.w_addL, Dz.w_addT, Dz.w_sl, Dz.w_oNone, Dz.w_oSome, Dz.w_asI, Dz.w_slL, Dz.w_slT, Dz.w_zp, Dz.w_itZL, Dz.w_itZT, Dz.w_rg3, Dz.w_par, Dz.w_asg, Dz.w_asD, Dz.w_fld, Dz.w_sfd, Dz.w_mk, Dz.w_pro, Dz.w_isI, Dz.w_met, Dz.w_ncb, Dz.w_tupL, Dz.w_tupT, Dz.w_listL, Dz.w_listT, Dz.w_sorted, Dz.w_minI, Dz.w_itA, Dz.w_itAt, Dz.w_itAs, Dz.w_itAz, Dz.w_inT, Dz.w_inL, Dz.w_niT, Dz.w_inD, Dz.w_eqS, Dz.w_neS, Dz.w_eqI, Dz.w_neI, Dz.w_eqB, Dz.w_neB, Dz.w_eqL, Dz.w_neL, Dz.w_eqT, Dz.w_neT, Dz.dunNe_str, Dz.dunNe_bl, Dz.dunNe_int, Dz.dunNe_lst, Dz.dunNe_tup, Dz.dunNe_non, Dz.dunEq_str, Dz.dunEq_bl, Dz.dunEq_int, Dz.dunEq_lst, Dz.dunEq_tup, Dz.dunEq_non, Dz.dunIn_ins, Dz.tBoolX_ins, Dz.w_notB, Dz.w_isB, Dz.wp_bnd, Dz.w_mod, Dz.w_div, Dz.w_itR, Dz.w_itR2, Dz.w_fldD, Dz.w_cm, Dz.w_mkL, Dz.w_isC, Dz.w_fldL, Dz.w_stL, Dz.w_len, Dz.dInts_ints, Dz.ints_len, Dz.w_asgL, Dz.wipeE, Dz.setAll, Dz.w_gset1, Dz.w_gset2, Dz.w_gset3, Dz.w_lam, List.map_cons, List.map_nil, List.length_cons, List.length_nil, List.replicate, List.cons_append, List.nil_append, List.append_nil, List.getElem?_cons_zero, List.getElem?_cons_succ, List.set_cons_zero, List.set_cons_succ, Nat.reduceAdd, Nat.reduceSub, Nat.zero_add, Nat.sub_zero, Bool.not_true, Bool.not_false, if_true, if_false, Bool.false_eq_true, reduceIte, decide_eq_true_eq, Option.map_some, Nat.reduceLeDiff, List.length_map, List.foldl_cons, List.foldl_nil, mul_kd, ne_kd]))
  ((try rw [Dz.after_nx]); (simp (maxSteps := 4000000) (disch := first | omega | decide | assumption | (simp only [List.length_cons, List.length_nil, Nat.reduceAdd, Nat.reduceLeDiff]; done) | (simp only [List.length_cons, List.length_nil, List.length_map, Dz.ints_len]; omega)) only [Dz.wp_noE, Dz.noE_pur, Dz.w_var, Dz.w_c, Dz.w_op, Dz.w_ix, Dz.w_un, Dz.w_test, Dz.w_asB, Dz.w_not, Dz.w_and, Dz.w_or, Dz.w_if, Dz.w_sif, Dz.w_seq, Dz.after_rt, Dz.w_next, Dz.w_ret, Dz.w_set, Dz.w_drop, Dz.w_put, Dz.w_nil, Dz.w_cons, Dz.w_cb, Dz.w_call, Dz.w_tup, Dz.w_lst, Dz.w_cell, Dz.w_for, Dz.w_of, Dz.w_rg, Dz.w_new, Dz.w_newC, Dz.w_lc, Dz.w_join, Dz.w_isS, Dz.w_chain, Dz.w_eand, Dz.w_eor, Dz.w_enot, Dz.w_ltS, Dz.w_leS, Dz.w_is, Dz.w_isnot, Dz.w_inS, Dz.w_rpr, Dz.w_itS, Dz.w_itL, Dz.w_itLs, Dz.w_itT, Dz.w_add, Dz.w_sub, Dz.w_neg, Dz.w_lt, Dz.w_le, Dz.w_gt, Dz.w_ge, Dz.w_int, Dz.w_intb, Dz.w_abs, Dz.w_max, Dz.w_min, Dz.w_lenL, Dz.w_lenT, Dz.w_lenR, Dz.wp_pur, Dz.startE, Dz.w_dtup, Dz.w_dlst, Dz.asDs_nil, Dz.asDs_cons, Dz.w_some, Dz.w_kTup, Dz.w_kLst, Dz.w_addL, Dz.w_addT, Dz.w_sl, Dz.w_oNone, Dz.w_oSome, Dz.w_asI, Dz.w_slL, Dz.w_slT, Dz.w_zp, Dz.w_itZL, Dz.w_itZT, Dz.w_rg3, Dz.w_par, Dz.w_asg, Dz.w_asD, Dz.w_fld, Dz.w_sfd, Dz.w_mk, Dz.w_pro, Dz.w_isI, Dz.w_met, Dz.w_ncb, Dz.w_tupL, Dz.w_tupT, Dz.w_listL, Dz.w_listT, Dz.w_sorted, Dz.w_minI, Dz.w_itA, Dz.w_itAt, Dz.w_itAs, Dz.w_itAz, Dz.w_inT, Dz.w_inL, Dz.w_niT, Dz.w_inD, Dz.w_eqS, Dz.w_neS, Dz.w_eqI, Dz.w_neI, Dz.w_eqB, Dz.w_neB, Dz.w_eqL, Dz.w_neL, Dz.w_eqT, Dz.w_neT, Dz.dunNe_str, Dz.dunNe_bl, Dz.dunNe_int, Dz.dunNe_lst, Dz.dunNe_tup, Dz.dunNe_non, Dz.dunEq_str, Dz.dunEq_bl, Dz.dunEq_int, Dz.dunEq_lst, Dz.dunEq_tup, Dz.dunEq_non, Dz.dunIn_ins, Dz.tBoolX_ins, Dz.w_notB, Dz.w_isB, Dz.wp_bnd, Dz.w_mod, Dz.w_div, Dz.w_itR, Dz.w_itR2, Dz.w_fldD, Dz.w_cm, Dz.w_mkL, Dz.w_isC, Dz.w_fldL, Dz.w_stL, Dz.w_len, Dz.dInts_ints, Dz.ints_len, Dz.w_asgL, Dz.wipeE, Dz.setAll, Dz.w_gset1, Dz.w_gset2, Dz.w_gset3, Dz.w_lam, List.map_cons, List.map_nil, List.length_cons, List.length_nil, List.replicate, List.cons_append, List.nil_append, List.append_nil, List.getElem?_cons_zero, List.getElem?_cons_succ, List.set_cons_zero, List.set_cons_succ, Nat.reduceAdd, Nat.reduceSub, Nat.zero_add, Nat.sub_zero, Bool.not_true, Bool.not_false, if_true, if_false, Bool.false_eq_true, reduceIte, decide_eq_true_eq, Option.map_some, Nat.reduceLeDiff, List.length_map, List.foldl_cons, List.foldl_nil]))
  ((try rw [Dz.after_nx]); (simp (maxSteps := 4000000) (disch := first | omega | decide | assumption | (simp only [List.length_cons, List.length_nil, Nat.reduceAdd, Nat.reduceLeDiff]; done) | (simp only [List.length_cons, List.length_nil, List.length_map, Dz.ints_len]; omega)) only [Dz.wp_noE, Dz.noE_pur, Dz.w_var, Dz.w_c, Dz.w_op, Dz.w_ix, Dz.w_un, Dz.w_test, Dz.w_asB, Dz.w_not, Dz.w_and, Dz.w_or, Dz.w_if, Dz.w_sif, Dz.w_seq, Dz.after_rt, Dz.w_next, Dz.w_ret, Dz.w_set, Dz.w_drop, Dz.w_put, Dz.w_nil, Dz.w_cons, Dz.w_cb, Dz.w_call, Dz.w_tup, Dz.w_lst, Dz.w_cell, Dz.w_for, Dz.w_of, Dz.w_rg, Dz.w_new, Dz.w_newC, Dz.w_lc, Dz.w_join, Dz.w_isS, Dz.w_chain, Dz.w_eand, Dz.w_eor, Dz.w_enot, Dz.w_ltS, Dz.w_leS, Dz.w_is, Dz.w_isnot, Dz.w_inS, Dz.w_rpr, Dz.w_itS, Dz.w_itL, Dz.w_itLs, Dz.w_itT, Dz.w_add, Dz.w_sub, Dz.w_neg, Dz.w_lt, Dz.w_le, Dz.w_gt, Dz.w_ge, Dz.w_int, Dz.w_intb, Dz.w_abs, Dz.w_max, Dz.w_min, Dz.w_lenL, Dz.w_lenT, Dz.w_lenR, Dz.wp_pur, Dz.startE, Dz.w_dtup, Dz.w_dlst, Dz.asDs_nil, Dz.asDs_cons, Dz.w_some, Dz.w_kTup, Dz.w_kLst, Dz.w_addL, Dz.w_addT, Dz.w_sl, Dz.w_oNone, Dz.w_oSome, Dz.w_asI, Dz.w_slL, Dz.w_slT, Dz.w_zp, Dz.w_itZL, Dz.w_itZT, Dz.w_rg3, Dz.w_par, Dz.w_asg, Dz.w_asD, Dz.w_fld, Dz.w_sfd, Dz.w_mk, Dz.w_pro, Dz.w_isI, Dz.w_met, Dz.w_ncb, Dz.w_tupL, Dz.w_tupT, Dz.w_listL, Dz.w_listT, Dz.w_sorted, Dz.w_minI, Dz.w_itA, Dz.w_itAt, Dz.w_itAs, Dz.w_itAz, Dz.w_inT, Dz.w_inL, Dz.w_niT, Dz.w_inD, Dz.w_eqS, Dz.w_neS, Dz.w_eqI, Dz.w_neI, Dz.w_eqB, Dz.w_neB, Dz.w_eqL, Dz.w_neL, Dz.w_eqT, Dz.w_neT, Dz.dunNe_str, Dz.dunNe_bl, Dz.dunNe_int, Dz.dunNe_lst, Dz.dunNe_tup, Dz.dunNe_non, Dz.dunEq_str, Dz.dunEq_bl, Dz.dunEq_int, Dz.dunEq_lst, Dz.dunEq_tup, Dz.dunEq_non, Dz.dunIn_ins, Dz.tBoolX_ins, Dz.w_notB, Dz.w_isB, Dz.wp_bnd, Dz.w_mod, Dz.w_div, Dz.w_itR, Dz.w_itR2, Dz.w_fldD, Dz.w_cm, Dz.w_mkL, Dz.w_isC, Dz.w_fldL, Dz.w_stL, Dz.w_len, Dz.dInts_ints, Dz.ints_len, Dz.w_asgL, Dz.wipeE, Dz.setAll, Dz.w_gset1, Dz.w_gset2, Dz.w_gset3, Dz.w_lam, List.map_cons, List.map_nil, List.length_cons, List.length_nil, List.replicate, List.cons_append, List.nil_append, List.append_nil, List.getElem?_cons_zero, List.getElem?_cons_succ, List.set_cons_zero, List.set_cons_succ, Nat.reduceAdd, Nat.reduceSub, Nat.zero_add, Nat.sub_zero, Bool.not_true, Bool.not_false, if_true, if_false, Bool.false_eq_true, reduceIte, decide_eq_true_eq, Option.map_some, Nat.reduceLeDiff, List.length_map, List.foldl_cons, List.foldl_nil]))
  ((try rw [Dz.after_nx]); (simp (maxSteps := 4000000) (disch := first | omega | decide | assumption | (simp only [List.length_cons, List.length_nil, Nat.reduceAdd, Nat.reduceLeDiff]; done) | (simp only [List.length_cons, List.length_nil, List.length_map, Dz.ints_len]; omega)) only [Dz.wp_noE, Dz.noE_pur, Dz.w_var, Dz.w_c, Dz.w_op, Dz.w_ix, Dz.w_un, Dz.w_test, Dz.w_asB, Dz.w_not, Dz.w_and, Dz.w_or, Dz.w_if, Dz.w_sif, Dz.w_seq, Dz.after_rt, Dz.w_next, Dz.w_ret, Dz.w_set, Dz.w_drop, Dz.w_put, Dz.w_nil, Dz.w_cons, Dz.w_cb, Dz.w_call, Dz.w_tup, Dz.w_lst, Dz.w_cell, Dz.w_for, Dz.w_of, Dz.w_rg, Dz.w_new, Dz.w_newC, Dz.w_lc, Dz.w_join, Dz.w_isS, Dz.w_chain, Dz.w_eand, Dz.w_eor, Dz.w_enot, Dz.w_ltS, Dz.w_leS, Dz.w_is, Dz.w_isnot, Dz.w_inS, Dz.w_rpr, Dz.w_itS, Dz.w_itL, Dz.w_itLs, Dz.w_itT, Dz.w_add, Dz.w_sub, Dz.w_neg, Dz.w_lt, Dz.w_le, Dz.w_gt, Dz.w_ge, Dz.w_int, Dz.w_intb, Dz.w_abs, Dz.w_max, Dz.w_min, Dz.w_lenL, Dz.w_lenT, Dz.w_lenR, Dz.wp_pur, Dz.startE, Dz.w_dtup, Dz.w_dlst, Dz.asDs_nil, Dz.asDs_cons, Dz.w_some, Dz.w_kTup, Dz.w_kLst, Dz.w_addL, Dz.w_addT, Dz.w_sl, Dz.w_oNone, Dz.w_oSome, Dz.w_asI, Dz.w_slL, Dz.w_slT, Dz.w_zp, Dz.w_itZL, Dz.w_itZT, Dz.w_rg3, Dz.w_par, Dz.w_asg, Dz.w_asD, Dz.w_fld, Dz.w_sfd, Dz.w_mk, Dz.w_pro, Dz.w_isI, Dz.w_met, Dz.w_ncb, Dz.w_tupL, Dz.w_tupT, Dz.w_listL, Dz.w_listT, Dz.w_sorted, Dz.w_minI, Dz.w_itA, Dz.w_itAt, Dz.w_itAs, Dz.w_itAz, Dz.w_inT, Dz.w_inL, Dz.w_niT, Dz.w_inD, Dz.w_eqS, Dz.w_neS, Dz.w_eqI, Dz.w_neI, Dz.w_eqB, Dz.w_neB, Dz.w_eqL, Dz.w_neL, Dz.w_eqT, Dz.w_neT, Dz.dunNe_str, Dz.dunNe_bl, Dz.dunNe_int, Dz.dunNe_lst, Dz.dunNe_tup, Dz.dunNe_non, Dz.dunEq_str, Dz.dunEq_bl, Dz.dunEq_int, Dz.dunEq_lst, Dz.dunEq_tup, Dz.dunEq_non, Dz.dunIn_ins, Dz.tBoolX_ins, Dz.w_notB, Dz.w_isB, Dz.wp_bnd, Dz.w_mod, Dz.w_div, Dz.w_itR, Dz.w_itR2, Dz.w_fldD, Dz.w_cm, Dz.w_mkL, Dz.w_isC, Dz.w_fldL, Dz.w_stL, Dz.w_len, Dz.dInts_ints, Dz.ints_len, Dz.w_asgL, Dz.wipeE, Dz.setAll, Dz.w_gset1, Dz.w_gset2, Dz.w_gset3, Dz.w_lam, List.map_cons, List.map_nil, List.length_cons, List.length_nil, List.replicate, List.cons_append, List.nil_append, List.append_nil, List.getElem?_cons_zero, List.getElem?_cons_succ, List.set_cons_zero, List.set_cons_succ, Nat.reduceAdd, Nat.reduceSub, Nat.zero_add, Nat.sub_zero, Bool.not_true, Bool.not_false, if_true, if_false, Bool.false_eq_true, reduceIte, decide_eq_true_eq, Option.map_some, Nat.reduceLeDiff, List.length_map, List.foldl_cons, List.foldl_nil]))
  rw [kp_oth (by simp), wp_pur, eq_ko, wp_pur]
  exact ⟨_, rfl, rfl, by rw [d5.take]; exact d5⟩
theorem law_true (ns : List Int) (hl : ns.length ≤ 63) : ∃ S', f_law [.d (.scr ns)] [] = .ok (.d (.bl true)) S' := by
  suffices h : wp (f_law [.d (.scr ns)]) [] fun x _ => x = .d (.bl true) by
    obtain ⟨x, S', e, rfl⟩ := h
    exact ⟨S', e⟩
  apply wp_fn
  unfold b_law
  have lr : bLen [.d (.scr ns)] = pur (.d (.int ns.length)) := rfl
  ((try rw [Dz.after_nx]); (simp (maxSteps := 4000000) (disch := first | omega | decide | assumption | (simp only [List.length_cons, List.length_nil, Nat.reduceAdd, Nat.reduceLeDiff]; done) | (simp only [List.length_cons, List.length_nil, List.length_map, Dz.ints_len]; omega)) only [Dz.wp_noE, Dz.noE_pur, Dz.w_var, Dz.w_c, Dz.w_op, Dz.w_ix, Dz.w_un, Dz.w_test, Dz.w_asB, Dz.w_not, Dz.w_and, Dz.w_or, Dz.w_if, Dz.w_sif, Dz.w_seq, Dz.after_rt, Dz.w_next, Dz.w_ret, Dz.w_set, Dz.w_drop, Dz.w_put, Dz.w_nil, Dz.w_cons, Dz.w_cb, Dz.w_call, Dz.w_tup, Dz.w_lst, Dz.w_cell, Dz.w_for, Dz.w_of, Dz.w_rg, Dz.w_new, Dz.w_newC, Dz.w_lc, Dz.w_join, Dz.w_isS, Dz.w_chain, Dz.w_eand, Dz.w_eor, Dz.w_enot, Dz.w_ltS, Dz.w_leS, Dz.w_is, Dz.w_isnot, Dz.w_inS, Dz.w_rpr, Dz.w_itS, Dz.w_itL, Dz.w_itLs, Dz.w_itT, Dz.w_add, Dz.w_sub, Dz.w_neg, Dz.w_lt, Dz.w_le, Dz.w_gt, Dz.w_ge, Dz.w_int, Dz.w_intb, Dz.w_abs, Dz.w_max, Dz.w_min, Dz.w_lenL, Dz.w_lenT, Dz.w_lenR, Dz.wp_pur, Dz.startE, Dz.w_dtup, Dz.w_dlst, Dz.asDs_nil, Dz.asDs_cons, Dz.w_some, Dz.w_kTup, Dz.w_kLst, Dz.w_addL, Dz.w_addT, Dz.w_sl, Dz.w_oNone, Dz.w_oSome, Dz.w_asI, Dz.w_slL, Dz.w_slT, Dz.w_zp, Dz.w_itZL, Dz.w_itZT, Dz.w_rg3, Dz.w_par, Dz.w_asg, Dz.w_asD, Dz.w_fld, Dz.w_sfd, Dz.w_mk, Dz.w_pro, Dz.w_isI, Dz.w_met, Dz.w_ncb, Dz.w_tupL, Dz.w_tupT, Dz.w_listL, Dz.w_listT, Dz.w_sorted, Dz.w_minI, Dz.w_itA, Dz.w_itAt, Dz.w_itAs, Dz.w_itAz, Dz.w_inT, Dz.w_inL, Dz.w_niT, Dz.w_inD, Dz.w_eqS, Dz.w_neS, Dz.w_eqI, Dz.w_neI, Dz.w_eqB, Dz.w_neB, Dz.w_eqL, Dz.w_neL, Dz.w_eqT, Dz.w_neT, Dz.dunNe_str, Dz.dunNe_bl, Dz.dunNe_int, Dz.dunNe_lst, Dz.dunNe_tup, Dz.dunNe_non, Dz.dunEq_str, Dz.dunEq_bl, Dz.dunEq_int, Dz.dunEq_lst, Dz.dunEq_tup, Dz.dunEq_non, Dz.dunIn_ins, Dz.tBoolX_ins, Dz.w_notB, Dz.w_isB, Dz.wp_bnd, Dz.w_mod, Dz.w_div, Dz.w_itR, Dz.w_itR2, Dz.w_fldD, Dz.w_cm, Dz.w_mkL, Dz.w_isC, Dz.w_fldL, Dz.w_stL, Dz.w_len, Dz.dInts_ints, Dz.ints_len, Dz.w_asgL, Dz.wipeE, Dz.setAll, Dz.w_gset1, Dz.w_gset2, Dz.w_gset3, Dz.w_lam, List.map_cons, List.map_nil, List.length_cons, List.length_nil, List.replicate, List.cons_append, List.nil_append, List.append_nil, List.getElem?_cons_zero, List.getElem?_cons_succ, List.set_cons_zero, List.set_cons_succ, Nat.reduceAdd, Nat.reduceSub, Nat.zero_add, Nat.sub_zero, Bool.not_true, Bool.not_false, if_true, if_false, Bool.false_eq_true, reduceIte, decide_eq_true_eq, Option.map_some, Nat.reduceLeDiff, List.length_map, List.foldl_cons, List.foldl_nil, lr]))
  refine forL_inv (I := fun ρ _ => ∃ a, ρ = [some (.d (.scr ns)), a]) _ _ [] ⟨_, rfl⟩ (fun x hx ρ S hI => ?_) fun ρ S hI => ?_
  · obtain ⟨a, rfl⟩ := hI
    have hm := mem_ints.mp hx
    ((try rw [Dz.after_nx]); (simp (maxSteps := 4000000) (disch := first | omega | decide | assumption | (simp only [List.length_cons, List.length_nil, Nat.reduceAdd, Nat.reduceLeDiff]; done) | (simp only [List.length_cons, List.length_nil, List.length_map, Dz.ints_len]; omega)) only [Dz.wp_noE, Dz.noE_pur, Dz.w_var, Dz.w_c, Dz.w_op, Dz.w_ix, Dz.w_un, Dz.w_test, Dz.w_asB, Dz.w_not, Dz.w_and, Dz.w_or, Dz.w_if, Dz.w_sif, Dz.w_seq, Dz.after_rt, Dz.w_next, Dz.w_ret, Dz.w_set, Dz.w_drop, Dz.w_put, Dz.w_nil, Dz.w_cons, Dz.w_cb, Dz.w_call, Dz.w_tup, Dz.w_lst, Dz.w_cell, Dz.w_for, Dz.w_of, Dz.w_rg, Dz.w_new, Dz.w_newC, Dz.w_lc, Dz.w_join, Dz.w_isS, Dz.w_chain, Dz.w_eand, Dz.w_eor, Dz.w_enot, Dz.w_ltS, Dz.w_leS, Dz.w_is, Dz.w_isnot, Dz.w_inS, Dz.w_rpr, Dz.w_itS, Dz.w_itL, Dz.w_itLs, Dz.w_itT, Dz.w_add, Dz.w_sub, Dz.w_neg, Dz.w_lt, Dz.w_le, Dz.w_gt, Dz.w_ge, Dz.w_int, Dz.w_intb, Dz.w_abs, Dz.w_max, Dz.w_min, Dz.w_lenL, Dz.w_lenT, Dz.w_lenR, Dz.wp_pur, Dz.startE, Dz.w_dtup, Dz.w_dlst, Dz.asDs_nil, Dz.asDs_cons, Dz.w_some, Dz.w_kTup, Dz.w_kLst, Dz.w_addL, Dz.w_addT, Dz.w_sl, Dz.w_oNone, Dz.w_oSome, Dz.w_asI, Dz.w_slL, Dz.w_slT, Dz.w_zp, Dz.w_itZL, Dz.w_itZT, Dz.w_rg3, Dz.w_par, Dz.w_asg, Dz.w_asD, Dz.w_fld, Dz.w_sfd, Dz.w_mk, Dz.w_pro, Dz.w_isI, Dz.w_met, Dz.w_ncb, Dz.w_tupL, Dz.w_tupT, Dz.w_listL, Dz.w_listT, Dz.w_sorted, Dz.w_minI, Dz.w_itA, Dz.w_itAt, Dz.w_itAs, Dz.w_itAz, Dz.w_inT, Dz.w_inL, Dz.w_niT, Dz.w_inD, Dz.w_eqS, Dz.w_neS, Dz.w_eqI, Dz.w_neI, Dz.w_eqB, Dz.w_neB, Dz.w_eqL, Dz.w_neL, Dz.w_eqT, Dz.w_neT, Dz.dunNe_str, Dz.dunNe_bl, Dz.dunNe_int, Dz.dunNe_lst, Dz.dunNe_tup, Dz.dunNe_non, Dz.dunEq_str, Dz.dunEq_bl, Dz.dunEq_int, Dz.dunEq_lst, Dz.dunEq_tup, Dz.dunEq_non, Dz.dunIn_ins, Dz.tBoolX_ins, Dz.w_notB, Dz.w_isB, Dz.wp_bnd, Dz.w_mod, Dz.w_div, Dz.w_itR, Dz.w_itR2, Dz.w_fldD, Dz.w_cm, Dz.w_mkL, Dz.w_isC, Dz.w_fldL, Dz.w_stL, Dz.w_len, Dz.dInts_ints, Dz.ints_len, Dz.w_asgL, Dz.wipeE, Dz.setAll, Dz.w_gset1, Dz.w_gset2, Dz.w_gset3, Dz.w_lam, List.map_cons, List.map_nil, List.length_cons, List.length_nil, List.replicate, List.cons_append, List.nil_append, List.append_nil, List.getElem?_cons_zero, List.getElem?_cons_succ, List.set_cons_zero, List.set_cons_succ, Nat.reduceAdd, Nat.reduceSub, Nat.zero_add, Nat.sub_zero, Bool.not_true, Bool.not_false, if_true, if_false, Bool.false_eq_true, reduceIte, decide_eq_true_eq, Option.map_some, Nat.reduceLeDiff, List.length_map, List.foldl_cons, List.foldl_nil]))
    refine wp_mono (numbers_wp (by omega) (by
      have : (if (if (ns.length : Int) < 8 then (ns.length : Int) else 8) > 1 then if (ns.length : Int) < 8 then (ns.length : Int) else 8 else 1) ≤ 8 := by split <;> split <;> omega
      omega)) ?_
    rintro _ _ ⟨rfl, u, v, w, rfl⟩
    have dd : Die S.length (S ++ [.lst [.int u, .int v, .int w]]) := ⟨u, v, w, List.getElem?_concat_length⟩
    (try ((try rw [Dz.after_nx]); (simp (maxSteps := 4000000) (disch := first | omega | decide | assumption | (simp only [List.length_cons, List.length_nil, Nat.reduceAdd, Nat.reduceLeDiff]; done) | (simp only [List.length_cons, List.length_nil, List.length_map, Dz.ints_len]; omega)) only [Dz.wp_noE, Dz.noE_pur, Dz.w_var, Dz.w_c, Dz.w_op, Dz.w_ix, Dz.w_un, Dz.w_test, Dz.w_asB, Dz.w_not, Dz.w_and, Dz.w_or, Dz.w_if, Dz.w_sif, Dz.w_seq, Dz.after_rt, Dz.w_next, Dz.w_ret, Dz.w_set, Dz.w_drop, Dz.w_put, Dz.w_nil, Dz.w_cons, Dz.w_cb, Dz.w_call, Dz.w_tup, Dz.w_lst, Dz.w_cell, Dz.w_for, Dz.w_of, Dz.w_rg, Dz.w_new, Dz.w_newC, Dz.w_lc, Dz.w_join, Dz.w_isS, Dz.w_chain, Dz.w_eand, Dz.w_eor, Dz.w_enot, Dz.w_ltS, Dz.w_leS, Dz.w_is, Dz.w_isnot, Dz.w_inS, Dz.w_rpr, Dz.w_itS, Dz.w_itL, Dz.w_itLs, Dz.w_itT, Dz.w_add, Dz.w_sub, Dz.w_neg, Dz.w_lt, Dz.w_le, Dz.w_gt, Dz.w_ge, Dz.w_int, Dz.w_intb, Dz.w_abs, Dz.w_max, Dz.w_min, Dz.w_lenL, Dz.w_lenT, Dz.w_lenR, Dz.wp_pur, Dz.startE, Dz.w_dtup, Dz.w_dlst, Dz.asDs_nil, Dz.asDs_cons, Dz.w_some, Dz.w_kTup, Dz.w_kLst, Dz.w_addL, Dz.w_addT, Dz.w_sl, Dz.w_oNone, Dz.w_oSome, Dz.w_asI, Dz.w_slL, Dz.w_slT, Dz.w_zp, Dz.w_itZL, Dz.w_itZT, Dz.w_rg3, Dz.w_par, Dz.w_asg, Dz.w_asD, Dz.w_fld, Dz.w_sfd, Dz.w_mk, Dz.w_pro, Dz.w_isI, Dz.w_met, Dz.w_ncb, Dz.w_tupL, Dz.w_tupT, Dz.w_listL, Dz.w_listT, Dz.w_sorted, Dz.w_minI, Dz.w_itA, Dz.w_itAt, Dz.w_itAs, Dz.w_itAz, Dz.w_inT, Dz.w_inL, Dz.w_niT, Dz.w_inD, Dz.w_eqS, Dz.w_neS, Dz.w_eqI, Dz.w_neI, Dz.w_eqB, Dz.w_neB, Dz.w_eqL, Dz.w_neL, Dz.w_eqT, Dz.w_neT, Dz.dunNe_str, Dz.dunNe_bl, Dz.dunNe_int, Dz.dunNe_lst, Dz.dunNe_tup, Dz.dunNe_non, Dz.dunEq_str, Dz.dunEq_bl, Dz.dunEq_int, Dz.dunEq_lst, Dz.dunEq_tup, Dz.dunEq_non, Dz.dunIn_ins, Dz.tBoolX_ins, Dz.w_notB, Dz.w_isB, Dz.wp_bnd, Dz.w_mod, Dz.w_div, Dz.w_itR, Dz.w_itR2, Dz.w_fldD, Dz.w_cm, Dz.w_mkL, Dz.w_isC, Dz.w_fldL, Dz.w_stL, Dz.w_len, Dz.dInts_ints, Dz.ints_len, Dz.w_asgL, Dz.wipeE, Dz.setAll, Dz.w_gset1, Dz.w_gset2, Dz.w_gset3, Dz.w_lam, List.map_cons, List.map_nil, List.length_cons, List.length_nil, List.replicate, List.cons_append, List.nil_append, List.append_nil, List.getElem?_cons_zero, List.getElem?_cons_succ, List.set_cons_zero, List.set_cons_succ, Nat.reduceAdd, Nat.reduceSub, Nat.zero_add, Nat.sub_zero, Bool.not_true, Bool.not_false, if_true, if_false, Bool.false_eq_true, reduceIte, decide_eq_true_eq, Option.map_some, Nat.reduceLeDiff, List.length_map, List.foldl_cons, List.foldl_nil])))
    refine wp_mono (right_wp dd) ?_
    rintro _ S2 ⟨rfl, d2⟩
    (try ((try rw [Dz.after_nx]); (simp (maxSteps := 4000000) (disch := first | omega | decide | assumption | (simp only [List.length_cons, List.length_nil, Nat.reduceAdd, Nat.reduceLeDiff]; done) | (simp only [List.length_cons, List.length_nil, List.length_map, Dz.ints_len]; omega)) only [Dz.wp_noE, Dz.noE_pur, Dz.w_var, Dz.w_c, Dz.w_op, Dz.w_ix, Dz.w_un, Dz.w_test, Dz.w_asB, Dz.w_not, Dz.w_and, Dz.w_or, Dz.w_if, Dz.w_sif, Dz.w_seq, Dz.after_rt, Dz.w_next, Dz.w_ret, Dz.w_set, Dz.w_drop, Dz.w_put, Dz.w_nil, Dz.w_cons, Dz.w_cb, Dz.w_call, Dz.w_tup, Dz.w_lst, Dz.w_cell, Dz.w_for, Dz.w_of, Dz.w_rg, Dz.w_new, Dz.w_newC, Dz.w_lc, Dz.w_join, Dz.w_isS, Dz.w_chain, Dz.w_eand, Dz.w_eor, Dz.w_enot, Dz.w_ltS, Dz.w_leS, Dz.w_is, Dz.w_isnot, Dz.w_inS, Dz.w_rpr, Dz.w_itS, Dz.w_itL, Dz.w_itLs, Dz.w_itT, Dz.w_add, Dz.w_sub, Dz.w_neg, Dz.w_lt, Dz.w_le, Dz.w_gt, Dz.w_ge, Dz.w_int, Dz.w_intb, Dz.w_abs, Dz.w_max, Dz.w_min, Dz.w_lenL, Dz.w_lenT, Dz.w_lenR, Dz.wp_pur, Dz.startE, Dz.w_dtup, Dz.w_dlst, Dz.asDs_nil, Dz.asDs_cons, Dz.w_some, Dz.w_kTup, Dz.w_kLst, Dz.w_addL, Dz.w_addT, Dz.w_sl, Dz.w_oNone, Dz.w_oSome, Dz.w_asI, Dz.w_slL, Dz.w_slT, Dz.w_zp, Dz.w_itZL, Dz.w_itZT, Dz.w_rg3, Dz.w_par, Dz.w_asg, Dz.w_asD, Dz.w_fld, Dz.w_sfd, Dz.w_mk, Dz.w_pro, Dz.w_isI, Dz.w_met, Dz.w_ncb, Dz.w_tupL, Dz.w_tupT, Dz.w_listL, Dz.w_listT, Dz.w_sorted, Dz.w_minI, Dz.w_itA, Dz.w_itAt, Dz.w_itAs, Dz.w_itAz, Dz.w_inT, Dz.w_inL, Dz.w_niT, Dz.w_inD, Dz.w_eqS, Dz.w_neS, Dz.w_eqI, Dz.w_neI, Dz.w_eqB, Dz.w_neB, Dz.w_eqL, Dz.w_neL, Dz.w_eqT, Dz.w_neT, Dz.dunNe_str, Dz.dunNe_bl, Dz.dunNe_int, Dz.dunNe_lst, Dz.dunNe_tup, Dz.dunNe_non, Dz.dunEq_str, Dz.dunEq_bl, Dz.dunEq_int, Dz.dunEq_lst, Dz.dunEq_tup, Dz.dunEq_non, Dz.dunIn_ins, Dz.tBoolX_ins, Dz.w_notB, Dz.w_isB, Dz.wp_bnd, Dz.w_mod, Dz.w_div, Dz.w_itR, Dz.w_itR2, Dz.w_fldD, Dz.w_cm, Dz.w_mkL, Dz.w_isC, Dz.w_fldL, Dz.w_stL, Dz.w_len, Dz.dInts_ints, Dz.ints_len, Dz.w_asgL, Dz.wipeE, Dz.setAll, Dz.w_gset1, Dz.w_gset2, Dz.w_gset3, Dz.w_lam, List.map_cons, List.map_nil, List.length_cons, List.length_nil, List.replicate, List.cons_append, List.nil_append, List.append_nil, List.getElem?_cons_zero, List.getElem?_cons_succ, List.set_cons_zero, List.set_cons_succ, Nat.reduceAdd, Nat.reduceSub, Nat.zero_add, Nat.sub_zero, Bool.not_true, Bool.not_false, if_true, if_false, Bool.false_eq_true, reduceIte, decide_eq_true_eq, Option.map_some, Nat.reduceLeDiff, List.length_map, List.foldl_cons, List.foldl_nil])))
    exact ⟨_, rfl, _, rfl⟩
  · obtain ⟨a, rfl⟩ := hI
    (try ((try rw [Dz.after_nx]); (simp (maxSteps := 4000000) (disch := first | omega | decide | assumption | (simp only [List.length_cons, List.length_nil, Nat.reduceAdd, Nat.reduceLeDiff]; done) | (simp only [List.length_cons, List.length_nil, List.length_map, Dz.ints_len]; omega)) only [Dz.wp_noE, Dz.noE_pur, Dz.w_var, Dz.w_c, Dz.w_op, Dz.w_ix, Dz.w_un, Dz.w_test, Dz.w_asB, Dz.w_not, Dz.w_and, Dz.w_or, Dz.w_if, Dz.w_sif, Dz.w_seq, Dz.after_rt, Dz.w_next, Dz.w_ret, Dz.w_set, Dz.w_drop, Dz.w_put, Dz.w_nil, Dz.w_cons, Dz.w_cb, Dz.w_call, Dz.w_tup, Dz.w_lst, Dz.w_cell, Dz.w_for, Dz.w_of, Dz.w_rg, Dz.w_new, Dz.w_newC, Dz.w_lc, Dz.w_join, Dz.w_isS, Dz.w_chain, Dz.w_eand, Dz.w_eor, Dz.w_enot, Dz.w_ltS, Dz.w_leS, Dz.w_is, Dz.w_isnot, Dz.w_inS, Dz.w_rpr, Dz.w_itS, Dz.w_itL, Dz.w_itLs, Dz.w_itT, Dz.w_add, Dz.w_sub, Dz.w_neg, Dz.w_lt, Dz.w_le, Dz.w_gt, Dz.w_ge, Dz.w_int, Dz.w_intb, Dz.w_abs, Dz.w_max, Dz.w_min, Dz.w_lenL, Dz.w_lenT, Dz.w_lenR, Dz.wp_pur, Dz.startE, Dz.w_dtup, Dz.w_dlst, Dz.asDs_nil, Dz.asDs_cons, Dz.w_some, Dz.w_kTup, Dz.w_kLst, Dz.w_addL, Dz.w_addT, Dz.w_sl, Dz.w_oNone, Dz.w_oSome, Dz.w_asI, Dz.w_slL, Dz.w_slT, Dz.w_zp, Dz.w_itZL, Dz.w_itZT, Dz.w_rg3, Dz.w_par, Dz.w_asg, Dz.w_asD, Dz.w_fld, Dz.w_sfd, Dz.w_mk, Dz.w_pro, Dz.w_isI, Dz.w_met, Dz.w_ncb, Dz.w_tupL, Dz.w_tupT, Dz.w_listL, Dz.w_listT, Dz.w_sorted, Dz.w_minI, Dz.w_itA, Dz.w_itAt, Dz.w_itAs, Dz.w_itAz, Dz.w_inT, Dz.w_inL, Dz.w_niT, Dz.w_inD, Dz.w_eqS, Dz.w_neS, Dz.w_eqI, Dz.w_neI, Dz.w_eqB, Dz.w_neB, Dz.w_eqL, Dz.w_neL, Dz.w_eqT, Dz.w_neT, Dz.dunNe_str, Dz.dunNe_bl, Dz.dunNe_int, Dz.dunNe_lst, Dz.dunNe_tup, Dz.dunNe_non, Dz.dunEq_str, Dz.dunEq_bl, Dz.dunEq_int, Dz.dunEq_lst, Dz.dunEq_tup, Dz.dunEq_non, Dz.dunIn_ins, Dz.tBoolX_ins, Dz.w_notB, Dz.w_isB, Dz.wp_bnd, Dz.w_mod, Dz.w_div, Dz.w_itR, Dz.w_itR2, Dz.w_fldD, Dz.w_cm, Dz.w_mkL, Dz.w_isC, Dz.w_fldL, Dz.w_stL, Dz.w_len, Dz.dInts_ints, Dz.ints_len, Dz.w_asgL, Dz.wipeE, Dz.setAll, Dz.w_gset1, Dz.w_gset2, Dz.w_gset3, Dz.w_lam, List.map_cons, List.map_nil, List.length_cons, List.length_nil, List.replicate, List.cons_append, List.nil_append, List.append_nil, List.getElem?_cons_zero, List.getElem?_cons_succ, List.set_cons_zero, List.set_cons_succ, Nat.reduceAdd, Nat.reduceSub, Nat.zero_add, Nat.sub_zero, Bool.not_true, Bool.not_false, if_true, if_false, Bool.false_eq_true, reduceIte, decide_eq_true_eq, Option.map_some, Nat.reduceLeDiff, List.length_map, List.foldl_cons, List.foldl_nil])))
    exact ⟨_, rfl, rfl⟩
end K00
namespace K00
open PySem PySem.Spec PyProof.Rows L2 Dz
def fn : List DefZ := [⟨.m "ParseError" "__init__", "__init__", "ParseError.__init__", defArgs s_ParseError___init__, defBody s_ParseError___init__, defScope s_ParseError___init__⟩, ⟨.m "UnknownName" "__init__", "__init__", "UnknownName.__init__", defArgs s_UnknownName___init__, defBody s_UnknownName___init__, defScope s_UnknownName___init__⟩, ⟨.m "UnknownSite" "__init__", "__init__", "UnknownSite.__init__", defArgs s_UnknownSite___init__, defBody s_UnknownSite___init__, defScope s_UnknownSite___init__⟩, ⟨.m "InvalidNumber" "__init__", "__init__", "InvalidNumber.__init__", defArgs s_InvalidNumber___init__, defBody s_InvalidNumber___init__, defScope s_InvalidNumber___init__⟩, ⟨.m "NothingToUndo" "__init__", "__init__", "NothingToUndo.__init__", defArgs s_NothingToUndo___init__, defBody s_NothingToUndo___init__, defScope s_NothingToUndo___init__⟩, ⟨.m "Refused" "__init__", "__init__", "Refused.__init__", defArgs s_Refused___init__, defBody s_Refused___init__, defScope s_Refused___init__⟩, ⟨.m "TooMany" "__init__", "__init__", "TooMany.__init__", defArgs s_TooMany___init__, defBody s_TooMany___init__, defScope s_TooMany___init__⟩, ⟨.g "_law_numbers", "_law_numbers", "_law_numbers", defArgs s__law_numbers, defBody s__law_numbers, defScope s__law_numbers⟩, ⟨.g "_law_cast", "_law_cast", "_law_cast", defArgs s__law_cast, defBody s__law_cast, defScope s__law_cast⟩, ⟨.g "_law_pick", "_law_pick", "_law_pick", defArgs s__law_pick, defBody s__law_pick, defScope s__law_pick⟩, ⟨.g "_law_of_depth", "_law_of_depth", "_law_of_depth", defArgs s__law_of_depth, defBody s__law_of_depth, defScope s__law_of_depth⟩, ⟨.g "_law_of_others", "_law_of_others", "_law_of_others", defArgs s__law_of_others, defBody s__law_of_others, defScope s__law_of_others⟩, ⟨.g "_law_plain_ones", "_law_plain_ones", "_law_plain_ones", defArgs s__law_plain_ones, defBody s__law_plain_ones, defScope s__law_plain_ones⟩, ⟨.g "_law_right", "_law_right", "_law_right", defArgs s__law_right, defBody s__law_right, defScope s__law_right⟩, ⟨.g "law", "law", "law", defArgs s_law, defBody s_law, defScope s_law⟩]
def fz : List Fz := [.fa (.free "ArithmeticError"), .fa (.free "IndexError"), .fa (.free "KeyError"), .fa (.free "LookupError"), .fa (.free "OverflowError"), .fa (.free "ValueError"), .fa (.free "abs"), .fa (.free "int"), .fa (.free "isinstance"), .fa (.free "len"), .fa (.free "max"), .fa (.free "min"), .fa (.free "range"), .fa (.free "repr"), .chk (baseOB "DepthError" "ValueError.__init__"), .chk (baseB "ArithmeticError" "ArithmeticError.__init__"), .chk (baseB "IndexError" "IndexError.__init__"), .chk (baseB "KeyError" "KeyError.__init__"), .chk (baseB "LookupError" "LookupError.__init__"), .chk (baseB "OverflowError" "OverflowError.__init__"), .chk (errsB excL), .fa (.glo "_law_cast"), .fa (.glo "_law_numbers"), .fa (.glo "_law_of_depth"), .fa (.glo "_law_of_others"), .fa (.glo "_law_pick"), .fa (.glo "_law_plain_ones"), .fa (.glo "_law_right"), .fa (.glo "DepthError"), .fa (.glo "InvalidCommand"), .fa (.glo "InvalidLimit"), .fa (.glo "InvalidLimits"), .fa (.glo "InvalidModes"), .fa (.glo "InvalidNumber"), .fa (.glo "InvalidOperation"), .fa (.glo "InvalidProgram"), .fa (.glo "InvalidRow"), .fa (.glo "InvalidRun"), .fa (.glo "InvalidSign"), .fa (.glo "NothingToUndo"), .fa (.glo "ParseError"), .fa (.glo "Refused"), .fa (.glo "TooMany"), .fa (.glo "UnknownName"), .fa (.glo "UnknownSite"), .chk (keepB "InvalidNumber" "value" "IndexError.__new__" [.type "IndexError", .type "LookupError", .type "Exception", .type "BaseException", .type "object"]), .chk (keepB "NothingToUndo" "many" "LookupError.__new__" [.type "LookupError", .type "Exception", .type "BaseException", .type "object"]), .chk (keepB "ParseError" "line" "ValueError.__new__" [.type "ValueError", .type "Exception", .type "BaseException", .type "object"]), .chk (keepB "Refused" "name" "ArithmeticError.__new__" [.type "ArithmeticError", .type "Exception", .type "BaseException", .type "object"]), .chk (keepB "TooMany" "limit" "OverflowError.__new__" [.type "OverflowError", .type "ArithmeticError", .type "Exception", .type "BaseException", .type "object"]), .chk (keepB "UnknownName" "name" "LookupError.__new__" [.type "KeyError", .type "LookupError", .type "Exception", .type "BaseException", .type "object"]), .chk (keepB "UnknownSite" "site" "LookupError.__new__" [.type "KeyError", .type "LookupError", .type "Exception", .type "BaseException", .type "object"]), .chk (msgB "DepthError"), .chk (msgB "InvalidCommand"), .chk (msgB "InvalidLimit"), .chk (msgB "InvalidLimits"), .chk (msgB "InvalidModes"), .chk (msgB "InvalidOperation"), .chk (msgB "InvalidProgram"), .chk (msgB "InvalidRow"), .chk (msgB "InvalidRun"), .chk (msgB "InvalidSign"), .chk (tabEB tabE), .chk (fldB ["TooMany"] "limit"), .chk (fldB ["ParseError"] "line"), .chk (fldB ["NothingToUndo"] "many"), .chk (fldB ["Refused", "UnknownName"] "name"), .chk (fldB ["UnknownSite"] "site"), .chk (fldB ["InvalidNumber"] "value"), .fa (.glo "law")]
abbrev R : PySem.W.OpenRow := PySem.W.OpenLaw.row PySem.Challenge.rw_deepenough_k00_errors_and_what_they_keep
abbrev hk : PySem.W.Hook := hookQ fz fn
def ob (s : PySem.W.SharedT) : AlZ := obsR s.n fz fn (HandSHeadRun.getT s)
theorem ob_eq (s : PySem.W.SharedT) : ob s = hk.obs s.abs := obsQ_eq s
def loose : List Str := [("DepthError" : Str), ("InvalidProgram" : Str), ("InvalidRun" : Str), ("InvalidLimit" : Str), ("InvalidLimits" : Str), ("InvalidModes" : Str), ("InvalidRow" : Str), ("InvalidSign" : Str), ("InvalidOperation" : Str), ("InvalidCommand" : Str), ("ParseError" : Str), ("UnknownName" : Str), ("UnknownSite" : Str), ("InvalidNumber" : Str), ("NothingToUndo" : Str), ("Refused" : Str), ("TooMany" : Str), ("_law_numbers" : Str), ("_law_cast" : Str), ("_law_pick" : Str), ("_law_of_depth" : Str), ("_law_of_others" : Str), ("_law_plain_ones" : Str), ("_law_right" : Str)]
set_option maxHeartbeats 0 in
theorem run0 (w : World) : HandSHeadRun.RunEq R (PySem.W.view R.prog [26]) hook0 (fun _ => ()) 40000 loose w := by
  intro os
  kernel_rfl
set_option maxHeartbeats 0 in
theorem run1 (w : World) (os : OsState) : (HandSHeadRun.endF (HandSHeadRun.stepQ (HandSHeadRun.denQ HandSHeadRun.tabQ) R.prog w) 40000 R.prog w os).map (obQ1 fz) = some true := by kernel_rfl
set_option maxHeartbeats 0 in
theorem run2_0 (w : World) (os : OsState) : (HandSHeadRun.endF (HandSHeadRun.stepQ (HandSHeadRun.denQ HandSHeadRun.tabQ) R.prog w) 40000 R.prog w os).map (obQ2 (fn)) = some (valZ (fn)) := by kernel_rfl
theorem run2 (w : World) (os : OsState) : (HandSHeadRun.endF (HandSHeadRun.stepQ (HandSHeadRun.denQ HandSHeadRun.tabQ) R.prog w) 40000 R.prog w os).map (obQ2 fn) = some (valZ fn) := run2_0 w os
theorem run (w : World) : HandSHeadRun.RunEq R (PySem.W.view R.prog [26]) hk ob 40000 loose w := by
  intro os
  exact run3 (fun s => obQ_of) (run0 w os) (run1 w os) (run2 w os)
theorem facts {P : Program} {w : World} {K : Frag} {h : Heap} {mg : Str → Option Value} {f : Addr} (X : K.In h) (G : h.Ns mainGlobals mg) (hfa : mg ("law" : Str) = some (.ref f)) (c : SaysZ fz fn K) :
    ∀ base : Heap, K.In base → base.Ns mainGlobals mg → Bs K mg base → FnG P w K mg base (CX P w) 4 1 f (spM ⟨K, w⟩ 1 f_law) := by
  obtain ⟨fd_ParseError___init__, F_ParseError___init__⟩ := c.def_ 0 rfl
  obtain ⟨fd_UnknownName___init__, F_UnknownName___init__⟩ := c.def_ 1 rfl
  obtain ⟨fd_UnknownSite___init__, F_UnknownSite___init__⟩ := c.def_ 2 rfl
  obtain ⟨fd_InvalidNumber___init__, F_InvalidNumber___init__⟩ := c.def_ 3 rfl
  obtain ⟨fd_NothingToUndo___init__, F_NothingToUndo___init__⟩ := c.def_ 4 rfl
  obtain ⟨fd_Refused___init__, F_Refused___init__⟩ := c.def_ 5 rfl
  obtain ⟨fd_TooMany___init__, F_TooMany___init__⟩ := c.def_ 6 rfl
  obtain ⟨fd__law_numbers, F__law_numbers⟩ := c.def_ 7 rfl
  obtain ⟨fd__law_cast, F__law_cast⟩ := c.def_ 8 rfl
  obtain ⟨fd__law_pick, F__law_pick⟩ := c.def_ 9 rfl
  obtain ⟨fd__law_of_depth, F__law_of_depth⟩ := c.def_ 10 rfl
  obtain ⟨fd__law_of_others, F__law_of_others⟩ := c.def_ 11 rfl
  obtain ⟨fd__law_plain_ones, F__law_plain_ones⟩ := c.def_ 12 rfl
  obtain ⟨fd__law_right, F__law_right⟩ := c.def_ 13 rfl
  obtain ⟨fd_law, F_law⟩ := c.def_ 14 rfl
  have T : Txt0 K mg := ⟨He.free_ok X G (c.fact 0 (f := .fa (.free "ArithmeticError")) rfl), He.free_ok X G (c.fact 1 (f := .fa (.free "IndexError")) rfl), He.free_ok X G (c.fact 2 (f := .fa (.free "KeyError")) rfl), He.free_ok X G (c.fact 3 (f := .fa (.free "LookupError")) rfl), He.free_ok X G (c.fact 4 (f := .fa (.free "OverflowError")) rfl), He.free_ok X G (c.fact 5 (f := .fa (.free "ValueError")) rfl), He.free_ok X G (c.fact 6 (f := .fa (.free "abs")) rfl), He.free_ok X G (c.fact 7 (f := .fa (.free "int")) rfl), He.free_ok X G (c.fact 8 (f := .fa (.free "isinstance")) rfl), He.free_ok X G (c.fact 9 (f := .fa (.free "len")) rfl), He.free_ok X G (c.fact 10 (f := .fa (.free "max")) rfl), He.free_ok X G (c.fact 11 (f := .fa (.free "min")) rfl), He.free_ok X G (c.fact 12 (f := .fa (.free "range")) rfl), He.free_ok X G (c.fact 13 (f := .fa (.free "repr")) rfl), baseO_ok (chk_ok (c.fact 14 (f := .chk (baseOB "DepthError" "ValueError.__init__")) rfl)), base_ok (chk_ok (c.fact 15 (f := .chk (baseB "ArithmeticError" "ArithmeticError.__init__")) rfl)), base_ok (chk_ok (c.fact 16 (f := .chk (baseB "IndexError" "IndexError.__init__")) rfl)), base_ok (chk_ok (c.fact 17 (f := .chk (baseB "KeyError" "KeyError.__init__")) rfl)), base_ok (chk_ok (c.fact 18 (f := .chk (baseB "LookupError" "LookupError.__init__")) rfl)), base_ok (chk_ok (c.fact 19 (f := .chk (baseB "OverflowError" "OverflowError.__init__")) rfl)), errs_ok (chk_ok (c.fact 20 (f := .chk (errsB excL)) rfl)), He.glo_ok X G (c.fact 21 (f := .fa (.glo "_law_cast")) rfl), He.glo_ok X G (c.fact 22 (f := .fa (.glo "_law_numbers")) rfl), He.glo_ok X G (c.fact 23 (f := .fa (.glo "_law_of_depth")) rfl), He.glo_ok X G (c.fact 24 (f := .fa (.glo "_law_of_others")) rfl), He.glo_ok X G (c.fact 25 (f := .fa (.glo "_law_pick")) rfl), He.glo_ok X G (c.fact 26 (f := .fa (.glo "_law_plain_ones")) rfl), He.glo_ok X G (c.fact 27 (f := .fa (.glo "_law_right")) rfl), He.glo_ok X G (c.fact 28 (f := .fa (.glo "DepthError")) rfl), He.glo_ok X G (c.fact 29 (f := .fa (.glo "InvalidCommand")) rfl), He.glo_ok X G (c.fact 30 (f := .fa (.glo "InvalidLimit")) rfl), He.glo_ok X G (c.fact 31 (f := .fa (.glo "InvalidLimits")) rfl), He.glo_ok X G (c.fact 32 (f := .fa (.glo "InvalidModes")) rfl), He.glo_ok X G (c.fact 33 (f := .fa (.glo "InvalidNumber")) rfl), He.glo_ok X G (c.fact 34 (f := .fa (.glo "InvalidOperation")) rfl), He.glo_ok X G (c.fact 35 (f := .fa (.glo "InvalidProgram")) rfl), He.glo_ok X G (c.fact 36 (f := .fa (.glo "InvalidRow")) rfl), He.glo_ok X G (c.fact 37 (f := .fa (.glo "InvalidRun")) rfl), He.glo_ok X G (c.fact 38 (f := .fa (.glo "InvalidSign")) rfl), He.glo_ok X G (c.fact 39 (f := .fa (.glo "NothingToUndo")) rfl), He.glo_ok X G (c.fact 40 (f := .fa (.glo "ParseError")) rfl), He.glo_ok X G (c.fact 41 (f := .fa (.glo "Refused")) rfl), He.glo_ok X G (c.fact 42 (f := .fa (.glo "TooMany")) rfl), He.glo_ok X G (c.fact 43 (f := .fa (.glo "UnknownName")) rfl), He.glo_ok X G (c.fact 44 (f := .fa (.glo "UnknownSite")) rfl), F__law_cast.kp, F__law_numbers.kp, F__law_of_depth.kp, F__law_of_others.kp, F__law_pick.kp, F__law_plain_ones.kp, F__law_right.kp, keepX_ok (CallX.of F.excBase_IndexError) F.store_IndexError (chk_ok (c.fact 45 (f := .chk (keepB "InvalidNumber" "value" "IndexError.__new__" [.type "IndexError", .type "LookupError", .type "Exception", .type "BaseException", .type "object"])) rfl)), keepX_ok (CallX.of F.excBase_LookupError) F.store_LookupError (chk_ok (c.fact 46 (f := .chk (keepB "NothingToUndo" "many" "LookupError.__new__" [.type "LookupError", .type "Exception", .type "BaseException", .type "object"])) rfl)), keepX_ok (CallX.of F.excBase_ValueError) F.store_ValueError (chk_ok (c.fact 47 (f := .chk (keepB "ParseError" "line" "ValueError.__new__" [.type "ValueError", .type "Exception", .type "BaseException", .type "object"])) rfl)), keepX_ok (CallX.of F.excBase_ArithmeticError) F.store_ArithmeticError (chk_ok (c.fact 48 (f := .chk (keepB "Refused" "name" "ArithmeticError.__new__" [.type "ArithmeticError", .type "Exception", .type "BaseException", .type "object"])) rfl)), keepX_ok (CallX.of F.excBase_OverflowError) F.store_OverflowError (chk_ok (c.fact 49 (f := .chk (keepB "TooMany" "limit" "OverflowError.__new__" [.type "OverflowError", .type "ArithmeticError", .type "Exception", .type "BaseException", .type "object"])) rfl)), keepX_ok callX_KeyError store_KeyError (chk_ok (c.fact 50 (f := .chk (keepB "UnknownName" "name" "LookupError.__new__" [.type "KeyError", .type "LookupError", .type "Exception", .type "BaseException", .type "object"])) rfl)), keepX_ok callX_KeyError store_KeyError (chk_ok (c.fact 51 (f := .chk (keepB "UnknownSite" "site" "LookupError.__new__" [.type "KeyError", .type "LookupError", .type "Exception", .type "BaseException", .type "object"])) rfl)), msgX_ok (c.fact 52 (f := .chk (msgB "DepthError")) rfl), msgX_ok (c.fact 53 (f := .chk (msgB "InvalidCommand")) rfl), msgX_ok (c.fact 54 (f := .chk (msgB "InvalidLimit")) rfl), msgX_ok (c.fact 55 (f := .chk (msgB "InvalidLimits")) rfl), msgX_ok (c.fact 56 (f := .chk (msgB "InvalidModes")) rfl), msgX_ok (c.fact 57 (f := .chk (msgB "InvalidOperation")) rfl), msgX_ok (c.fact 58 (f := .chk (msgB "InvalidProgram")) rfl), msgX_ok (c.fact 59 (f := .chk (msgB "InvalidRow")) rfl), msgX_ok (c.fact 60 (f := .chk (msgB "InvalidRun")) rfl), msgX_ok (c.fact 61 (f := .chk (msgB "InvalidSign")) rfl), tabE_ok (chk_ok (c.fact 62 (f := .chk (tabEB tabE)) rfl)), fld_ok (chk_ok (c.fact 63 (f := .chk (fldB ["TooMany"] "limit")) rfl)), fld_ok (chk_ok (c.fact 64 (f := .chk (fldB ["ParseError"] "line")) rfl)), fld_ok (chk_ok (c.fact 65 (f := .chk (fldB ["NothingToUndo"] "many")) rfl)), fld_ok (chk_ok (c.fact 66 (f := .chk (fldB ["Refused", "UnknownName"] "name")) rfl)), fld_ok (chk_ok (c.fact 67 (f := .chk (fldB ["UnknownSite"] "site")) rfl)), fld_ok (chk_ok (c.fact 68 (f := .chk (fldB ["InvalidNumber"] "value")) rfl)), ⟨_, F_ParseError___init__⟩, ⟨_, F_UnknownName___init__⟩, ⟨_, F_UnknownSite___init__⟩, ⟨_, F_InvalidNumber___init__⟩, ⟨_, F_NothingToUndo___init__⟩, ⟨_, F_Refused___init__⟩, ⟨_, F_TooMany___init__⟩, ⟨_, F__law_numbers⟩, ⟨_, F__law_cast⟩, ⟨_, F__law_pick⟩, ⟨_, F__law_of_depth⟩, ⟨_, F__law_of_others⟩, ⟨_, F__law_plain_ones⟩, ⟨_, F__law_right⟩, ⟨_, F_law⟩⟩
  have D_ParseError___init__ := ok_ParseError___init__ (P := P) (w := w) T
  have D_UnknownName___init__ := ok_UnknownName___init__ (P := P) (w := w) T
  have D_UnknownSite___init__ := ok_UnknownSite___init__ (P := P) (w := w) T
  have D_InvalidNumber___init__ := ok_InvalidNumber___init__ (P := P) (w := w) T
  have D_NothingToUndo___init__ := ok_NothingToUndo___init__ (P := P) (w := w) T
  have D_Refused___init__ := ok_Refused___init__ (P := P) (w := w) T
  have D_TooMany___init__ := ok_TooMany___init__ (P := P) (w := w) T
  have D__law_numbers := ok__law_numbers (P := P) (w := w) T
  have D__law_cast := ok__law_cast (P := P) (w := w) T
  have D__law_of_depth := ok__law_of_depth (P := P) (w := w) T
  have D__law_of_others := ok__law_of_others (P := P) (w := w) T
  have D__law_plain_ones := ok__law_plain_ones (P := P) (w := w) T
  have D__law_pick := ok__law_pick (P := P) (w := w) T D__law_cast
  have D__law_right := ok__law_right (P := P) (w := w) T D_ParseError___init__ D_UnknownName___init__ D_UnknownSite___init__ D_InvalidNumber___init__ D_NothingToUndo___init__ D_Refused___init__ D_TooMany___init__ D__law_of_depth D__law_of_others D__law_plain_ones D__law_pick
  have D_law := ok_law (P := P) (w := w) T D__law_numbers D__law_right
  have e := hfa.symm.trans (He.glo_ok X G (c.fact 69 (f := .fa (.glo "law")) rfl))
  cases e
  exact fun base _ _ hB => D_law base hB
end K00
open PySem PySem.W PySem.Calls PyProof.Rows
set_option maxHeartbeats 0 in
set_option maxRecDepth 100000 in
theorem PySem.Challenge.cw_deepenough_k00_errors_and_what_they_keep_holds : PySem.Challenge.rw_deepenough_k00_errors_and_what_they_keep.Holds := by
  w_on; o_law
  refine HandSHeadRun.head_any (r := OpenLaw.row PySem.Challenge.rw_deepenough_k00_errors_and_what_they_keep) (q := view (OpenLaw.row PySem.Challenge.rw_deepenough_k00_errors_and_what_they_keep).prog [26]) (H := K00.hk) (ob := K00.ob) (M := 40000) (loose := K00.loose) (d := HandSHeadRun.topDef (OpenLaw.row PySem.Challenge.rw_deepenough_k00_errors_and_what_they_keep).prog 26) (kwd := []) K00.ob_eq
    (by kernel_rfl) (fun s => by kernel_rfl) K00.run (by kernel_rfl) (by kernel_rfl) (by kernel_rfl) (by rfl) (by first | assumption | decide +kernel) (by decide +kernel) ⟨rfl, rfl, rfl, rfl, rfl, by decide +kernel⟩ ?hw ?hc
  case hw => w_witness2
  case hc =>
    refine Dz.walk_ofG (l := PySem.Challenge.rw_deepenough_k00_errors_and_what_they_keep) (n := 63) (k := 4) (CX := fun w => L2.CX (PySem.Challenge.rw_deepenough_k00_errors_and_what_they_keep).prog w) rfl (by decide) (by kernel_rfl) ⟨⟨rfl, by decide, by decide⟩, rfl⟩ ?F (fun _ _ _ _ _ ⟨_, _, _, _, _, _, _, _, _, _, _, _, z⟩ => z)
    intro w mg fa h Y G hmg0
    obtain ⟨K, ⟨KX, em⟩, c⟩ := Y
    have hmg : mg ("law" : PySem.Str) = some (.ref fa) := by
      have e : (HandSHeadRun.topDef (OpenLaw.row PySem.Challenge.rw_deepenough_k00_errors_and_what_they_keep).prog 26).name = ("law" : PySem.Str) := by kernel_rfl
      rw [← e]
      exact hmg0
    refine ⟨K, Dz.spM ⟨K, w⟩ 1 K00.f_law, ⟨KX, em⟩, fun H a ns hl hS => ?_, K00.facts (P := (PySem.Challenge.rw_deepenough_k00_errors_and_what_they_keep).prog) (w := w) KX G hmg c⟩
    exact Dz.law_end hS (K00.law_true ns hl)
