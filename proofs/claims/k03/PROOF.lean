import PyProof.Rows.All
import Wide.All
import OpenK.AllK
import Wide.FinOn
import HandS.ForMost
import HandS.ForExc
import HandS.IsInst
import HandS.Flow
import HandS.HeadHook2
import HandS.HeadEnd
import HandS.Property
import HandS.ClsMeth
import HandS.CallLocal
import KE.KOpsOwn
import PyProof.InstNe
import HandS.TupAny
import HandS.Defaults
import HandS.RaiseMore
import HandS.Zip
import HandS.SortInts
import HandS.DictComp
import PyProof.Rows.Range3
import PyProof.ReprRoads
import HandS.Small
import PyProof.FitsInt
import HandS.Deep
import HandS.TryOnly
import HandS.OwnEq
import HandS.Star
import HandS.SortKw
import KE.DataMinMax
import HandS.Style
import HandS.SetFor
import HandS.Strs
import HandS.FStr
import KE.KCallOwn
import HandS.ExcOwn
import HandS.SetBool
import HandS.Text
import KE.KIntText
import HandS.Conv
import PyProof.ListStr
import PyProof.StrCaseBound
import HandS.Head0
import HandS.Head1
import HandS.Head2
import PySem.Challenge.RW_deepenough_k03_whole_set_algebra
set_option Elab.async false
set_option linter.all false
set_option maxRecDepth 100000
set_option maxHeartbeats 4000000
/-! DzF: promises of defs where no repr is under way (guards), calls of them. -/
namespace Dz
open PySem PySem.Spec PyProof.Rows L2
abbrev Frag := PySem.W.Frag
/-- room for k calls, and no repr under way -/
structure Rm (k : Nat) (A : Around) : Prop where
  room : Room k A
  gd : A.guards = some []
theorem Rm.mono {j k : Nat} {A : Around} (r : Rm k A) (h : j ≤ k) : Rm j A := ⟨r.room.mono h, r.gd⟩
theorem Rm.deeper {k : Nat} {A : Around} (r : Rm (k + 1) A) (env : PySem.Env) : Rm k (A.deeper env) := ⟨r.room.deeper env, r.gd⟩
theorem Rm.in1 {k : Nat} {A : Around} (r : Rm (k + 1) A) : Rm k A.in1 := ⟨r.room.in1, r.gd⟩
theorem Rm.make {k : Nat} {A : Around} (r : Rm (k + 1) A) (C : Addr) (us : List Value) (kw : List (Str × Value)) : Rm k (A.under (.builtin "type.__call__" ⟨.ref C :: us, kw⟩)) :=
  ⟨r.room.make C us kw, by
    have e : (A.under (.builtin "type.__call__" ⟨.ref C :: us, kw⟩)).guards = A.guards := by
      cases q : A.guards <;> simp [Around.under, Code.guards, pushGuards, Code.isGuard, guardIds, q]
    rw [e]
    exact r.gd⟩
/-- how arguments without a star are read -/
abbrev Args1 (X : Cx) (e : Expr) (es : List Expr) : Prop := starEach (e :: es) X.env = (false, eval e X.env) :: starEach es X.env
abbrev NoStar (X : Cx) (es : List Expr) (pos : Pos) : Prop := ((backTo pos (starEach es X.env)).any fun z => z.1) = false
/-- how o.m(..) is read: the method first, the arguments behind it -/
abbrev MethSh (X : Cx) (o : Expr) (m : Str) (apos : Pos) (es : List Expr) (pos : Pos) (pl : Sem Bool) : Prop :=
  eval (.Call (.Attribute o m apos) es [] pos) X.env = (eval o X.env >>= fun ov => standAt apos.atName >>= fun _ => holding [ov] (getMethod ov m pl) >>= fun r =>
    callWith pos r.1 r.2 (backTo pos (starEach es X.env)) (backToKw pos (keywordEach [] X.env)))
/-- a def's promise by positional values -/
def FnG (P : Program) (w : World) (K : Frag) (mg : Str → Option Value) (base : Heap) (CX : CXT) (k n : Nat) (f : Addr) (sp : Sp) : Prop :=
  ∀ (A : Around) (outer : List PySem.Env) (s : Shared) (H : Hp) (us : List Value) (vs : List V) (Q : VK) (E : XK), Rm k A → Env0 P w K mg base A outer s H → Vals vs us → vs.length = n → sp vs H Q E →
    codeAny (model P w) A (.call (.ref f) ⟨us, []⟩) (CR CX outer P w H s Q E) s
section
variable {P : Program} {w : World} {K : Frag} {mg : Str → Option Value} {base : Heap} {CX : CXT} {j k n : Nat} {f : Addr} {sp : Sp}
theorem FnG.mono (F : FnG P w K mg base CX j n f sp) (h : j ≤ k) : FnG P w K mg base CX k n f sp := fun A outer s H us vs Q E hr => F A outer s H us vs Q E (hr.mono h)
/-- what a body leaves is what its call gives -/
theorem left {N : List Str} {qual : Str} {scope : Scope} {cdv : Value} {A : Around} {outer : List PySem.Env} {s s2 : Shared} {H : Hp} {Q : VK} {E : XK} {fl : Flow} (h : SP (cxOf CX P w K mg base N qual scope f cdv A outer s H E) [] { nx := fun _ H' => Q .non H', rt := Q } fl s2) :
    ∃ u, (fl = .ret u ∨ (fl = .next ∧ u = .none)) ∧ CE outer P w H s Q u s2 := by
  match fl, h with
  | .ret u, ⟨v, _, H2, J, rv, q⟩ => exact ⟨u, .inl rfl, v, H2, J.os, J.bare, J.base, J.hok, rv, q⟩
  | .next, ⟨_, H2, J, q⟩ => exact ⟨.none, .inr ⟨rfl, rfl⟩, .non, H2, J.os, J.bare, J.base, J.hok, rfl, q⟩
  | .brk, ⟨_, _, _, q⟩ => exact q.elim
  | .cont, ⟨_, _, _, q⟩ => exact q.elim
theorem fng_of {x qual : Str} {params : Arguments} {body : List Stmt} {scope : Scope} {dvs : List V} {kws : List (Str × V)} {fd : FuncData} {N ps : List Str} (F : FunD K x qual params body scope dvs kws f fd) (B : Binds K fd ps []) (S : FnScope N ps scope) (hn : n = ps.length)
    (hb : ∀ (cdv : Value) (A : Around) (outer : List PySem.Env) (s : Shared) (H : Hp) (vs : List V) (Q : VK) (E : XK), Rm k (A.deeper (envOfC qual scope s.heap.objs.size f cdv)) → vs.length = n → sp vs H Q E →
      ∃ t, PSs (cxOf CX P w K mg base N qual scope f cdv A outer s H E) body t ∧ t { nx := fun _ H' => Q .non H', rt := Q } (start N vs) H) : FnG P w K mg base CX (k + 1) n f sp := fun A outer s H us vs Q E hr e0 r hl hsp => by
  have up : ∀ (b : Addr) (o : Obj), base.get? b = some o → s.heap.get? b = some o := fun b o e => (e0.bs b o e).1
  have inK := e0.mod.kin.keeps up
  have noL := e0.mod.nolimit.keeps up
  have args := B s us inK (by rw [List.append_nil, ← r.length, hl, hn])
  obtain ⟨_, _, _, _, _, _, _, cdv, _, _, rfl, at_, code, _⟩ := F.ex
  obtain ⟨t, ht, hq⟩ := hb cdv A outer s H vs Q E (hr.deeper _) hl hsp
  have place : ∀ y ∈ ps.zip us, scope.names.lookup y.1 = some .local ∨ (scope.names.lookup y.1 = some .cell ∧ ((cellsFrom (s.heap.objs.size + 1) scope.names []).lookup y.1).isSome = true) := fun y hy =>
    (S.par y.1 (List.of_mem_zip (show (y.1, y.2) ∈ ps.zip us from hy)).1).imp id fun q => ⟨q, PySem.W.cellsFrom_some _ _ _ (.inl q)⟩
  refine codeAny_call_function hr.room.depth (inK _ _ at_) rfl S.co S.gen rfl (PySem.W.codeRec_of inK code) ((List.append_nil us ▸ args) _ _ _ _ (wpAny_newFunctionEnv_cells S.kind place fun env he s2 z => ?_))
  subst he
  have J := inv_start (CX := CX) (E := E) (cd := cdv) S hr.room.hd e0 (hl.trans hn) r z
  refine ⟨noL.keeps z.toInCall.keep, codeAny_func (wpAny_mono (ht.run [] s2 _ H _ J hq) (fun fl s3 hs => ?_) fun _ _ hs => hs)⟩
  obtain ⟨u, e | ⟨e, eu⟩, c⟩ := left hs
  · subst e; exact c
  · subst e; subst eu; exact c
end
section
variable {X : Cx} {CX : CXT} {k n : Nat} {f C : Addr} {sp : Sp} {E : XK} {pins : List (Addr × Obj)} {σ : L2.St} {H : Hp} {s : Shared} {Q : VK} {us : List Value} {vs : List V}
/-- what a call has left, seen from the caller -/
theorem seen {E' : Value → Shared → Prop} {r : Result} {s2 : Shared} (I : Inv X pins σ H s) (hx : ∀ e s', CX X.stack H s E e s' → E' e s') (h : CR CX X.stack X.prog X.w H s Q E r s2) :
    (∃ u, r = .ok (.ret u) ∧ EP X pins σ Q u s2) ∨ ∃ e, r = .error e ∧ E' e s2 := by
  match r, h with
  | .error e, h => exact .inr ⟨e, rfl, hx e s2 h⟩
  | .ok (.ret u), h => exact .inl ⟨u, rfl, I.after h⟩
  | .ok .next, h => exact h.elim
  | .ok .brk, h => exact h.elim
  | .ok .cont, h => exact h.elim
/-- such a call, from a state of X's, at A -/
theorem run_g {A : Around} {E' : Value → Shared → Prop} (F : FnG X.prog X.w X.K X.mg X.base CX k n f sp) (hr : Rm k A) (e0 : Env0 X.prog X.w X.K X.mg X.base A X.stack s H) (hx : ∀ e s', CX X.stack H s E e s' → E' e s') (I : Inv X pins σ H s) (r : Vals vs us) (hl : vs.length = n) (h : sp vs H Q E) :
    wpAny (model X.prog X.w) A (call (.ref f) us) (EP X pins σ Q) E' s := wpAny_call (codeAny_mono (F A X.stack s H us vs Q E hr e0 r hl h) fun o s2 c => by
  obtain ⟨u, rfl, q⟩ | ⟨e, rfl, q⟩ := seen I hx c <;> exact q)
theorem run_fng (F : FnG X.prog X.w X.K X.mg X.base CX k n f sp) (hr : Rm k X.A) (hx : Passes CX X E) (I : Inv X pins σ H s) (r : Vals vs us) (hl : vs.length = n) (h : sp vs H Q E) : wpAny (model X.prog X.w) X.A (call (.ref f) us) (EP X pins σ Q) X.xe s :=
  run_g F hr I.env0 (fun e s' z => hx pins σ H s e s' I z) I r hl h
end
/-- a reading, by what the expression does at each state -/
theorem pe_by {X : Cx} {e : Expr} {t : TE} (h : ∀ {pins : List (Addr × Obj)} {s : Shared} {σ : L2.St} {H : Hp} {Q : VK}, Inv X pins σ H s → t σ H Q → wpAny (model X.prog X.w) X.A (eval e X.env) (EP X pins σ Q) X.xe s) : PE X e t := ⟨fun _ _ _ _ _ => h⟩
/-! ### f(..) -/
section
variable {X : Cx} {CX : CXT} {k n : Nat} {f C : Addr} {sp : Sp} {E : XK} {x m : Str} {p pos apos : Pos} {e o : Expr} {es : List Expr} {ta : TE} {t : TA}
def tCallG (n : Nat) (sp : Sp) (E : XK) (t : TA) : TE := fun σ H Q => t σ H fun vs H1 => vs.length = n ∧ sp vs H1 Q E
theorem pg_call (F : FnG X.prog X.w X.K X.mg X.base CX k n f sp) (hr : Rm k X.A) (hg : Gl X x) (hm : X.mg x = some (.ref f)) (hk : PySem.W.keepIn X.K (.ref f) = true) (hx : Passes CX X E)
    (ha : PA X (e :: es) t) (hdb : (x == ("__debug__" : Str)) = false := by decide) (he : Args1 X e es := by rfl) (hpl : NoStar X es pos := by rfl) :
    PE X (.Call (.Name x p) (e :: es) [] pos) (tCallG n sp E t) := by
  exact pe_by fun I h => wpAny_Call_Name_kw (ld_glob I hg hm (PySem.W.callWith_K (h₀ := X.base) I.ok.mod.kin hk (thn (ha.run _ _ _ _ _ _ I h) fun us s1 ⟨vs, H1, J, r, hl, q⟩ => ⟨J.kIn, run_fng F hr hx J r hl q⟩) he hpl) hdb)
theorem pg_call0 (F : FnG X.prog X.w X.K X.mg X.base CX k 0 f sp) (hr : Rm k X.A) (hg : Gl X x) (hm : X.mg x = some (.ref f)) (hk : PySem.W.keepIn X.K (.ref f) = true) (hx : Passes CX X E) (hdb : (x == ("__debug__" : Str)) = false := by decide) :
    PE X (.Call (.Name x p) [] [] pos) (fun σ H Q => sp [] H Q E) := by
  exact pe_by fun I h => wpAny_Call_Name_kw (ld_glob I hg hm (PySem.W.callWith_K0 I.kIn hk (run_fng (us := []) F hr hx I .nil rfl h)) hdb)
/-! ### C(..) -/
def tMakeG (C : Addr) (n : Nat) (sp : Sp) (E : XK) (t : TA) : TE := fun σ H Q => t σ H fun vs H1 => vs.length = n ∧ ∀ x dx, H1 x = none → H1 dx = none → dx ≠ x →
  sp (.ref x :: vs) (upd (upd H1 dx (.own x)) x (.ins C dx [])) (fun v H2 => v = .non ∧ Q (.ref x) H2) E
theorem run_makeG {pins : List (Addr × Obj)} {σ : L2.St} {H : Hp} {s : Shared} {Q : VK} {us : List Value} {vs : List V} (M : Mk X.K C f) (F : FnG X.prog X.w X.K X.mg X.base CX k (n + 1) f sp) (hr : Rm (k + 1) X.A)
    (hx : Passes CX X E) (I : Inv X pins σ H s) (r : Vals vs us) (hl : vs.length = n)
    (h : ∀ x dx, H x = none → H dx = none → dx ≠ x → sp (.ref x :: vs) (upd (upd H dx (.own x)) x (.ins C dx [])) (fun v H2 => v = .non ∧ Q (.ref x) H2) E) :
    wpAny (model X.prog X.w) X.A (call (.ref C) us) (EP X pins σ Q)
      X.xe s := by
  have J := Inv.made (C := C) I
  have new : ∀ a, s.heap.objs.size ≤ a → H a = none := fun a ha => I.hok.fresh ha
  have q0 := h (s.heap.objs.size + 1) s.heap.objs.size (new _ (Nat.le_add_right _ 1)) (new _ (Nat.le_refl _)) (Nat.ne_of_lt (Nat.lt_succ_self _))
  have c := F _ X.stack _ _ (.ref (s.heap.objs.size + 1) :: us) _ _ E (hr.make C us []) (J.env0.make C us []) (show Vals (V.ref (s.heap.objs.size + 1) :: vs) (.ref (s.heap.objs.size + 1) :: us) from .cons rfl r) (congrArg (· + 1) hl) q0
  refine wpAny_call (make_map (f := f) I.kIn M.makes M.init (beq_iff_eq.mp M.fn) (codeAny_mono c fun o s2 z => ?_))
  obtain ⟨u, rfl, v, H2, I3, rv, ev, q⟩ | ⟨e, rfl, q⟩ := seen J (fun e s' y => hx pins σ _ _ e s' J y) z
  · rw [ev] at rv
    exact ⟨rv, .ref _, H2, I3, rfl, q⟩
  · exact q
theorem pg_make (M : Mk X.K C f) (F : FnG X.prog X.w X.K X.mg X.base CX k (n + 1) f sp) (hr : Rm (k + 1) X.A) (hg : Gl X x) (hm : X.mg x = some (.ref C)) (hx : Passes CX X E)
    (ha : PA X (e :: es) t) (hdb : (x == ("__debug__" : Str)) = false := by decide) (he : Args1 X e es := by rfl) (hpl : NoStar X es pos := by rfl) :
    PE X (.Call (.Name x p) (e :: es) [] pos) (tMakeG C n sp E t) := by
  exact pe_by fun I h => wpAny_Call_Name_kw (ld_glob I hg hm (PySem.W.callWith_K (h₀ := X.base) I.ok.mod.kin M.kp (thn (ha.run _ _ _ _ _ _ I h) fun us s1 ⟨vs, H1, J, r, hl, q⟩ => ⟨J.kIn, run_makeG M F hr hx J r hl q⟩) he hpl) hdb)
/-! ### o.m, o.m(..) -/
def tMethG (C : Addr) (m : Str) (n : Nat) (sp : Sp) (E : XK) (ta : TE) (t : TA) : TE := fun σ H Q => ta σ H fun x H1 => ∃ a dx fs, x = .ref a ∧ H1 a = some (.ins C dx fs) ∧ fs.lookup m = none ∧
  t σ H1 fun vs H2 => vs.length = n ∧ sp (x :: vs) H2 Q E
theorem pg_meth {pl : Sem Bool} (he : PE X o ta) (c : Cls X.K C) (hm : Meth X.K C m f) (F : FnG X.prog X.w X.K X.mg X.base CX k (n + 1) f sp) (hr : Rm k X.A) (hx : Passes CX X E) (ha : PA X (e :: es) t)
    (hst : Args1 X e es := by rfl) (hpl : NoStar X es pos := by rfl)
    (ht : MethSh X o m apos (e :: es) pos pl := by rfl) :
    PE X (.Call (.Attribute o m apos) (e :: es) [] pos) (tMethG C m n sp E ta t) := by
  refine pe_by fun I h => PySem.W.methodCall_KW (pl := pl) (thn (he.run _ _ _ _ _ I h) fun u s1 ⟨x, H1, J, ru, a, dx, fs, ex, ea, l, q⟩ => ?_) ht
  rw [ex] at ru q
  cases ru
  refine getmeth_ok J ea c hm l (PySem.W.callWith_K (first := [.ref a]) (h₀ := X.base) I.ok.mod.kin hm.kp (thn (ha.run _ _ _ _ _ _ J q) fun us s2 ⟨vs, H2, J2, r, hl, q2⟩ => ⟨J2.kIn, ?_⟩) hst hpl)
  exact run_fng F hr hx J2 (show Vals (.ref a :: vs) (.ref a :: us) from .cons rfl r) (congrArg (· + 1) hl) q2
theorem pg_meth0 {pl : Sem Bool} (he : PE X o ta) (c : Cls X.K C) (hm : Meth X.K C m f) (F : FnG X.prog X.w X.K X.mg X.base CX k 1 f sp) (hr : Rm k X.A) (hx : Passes CX X E)
    (ht : MethSh X o m apos [] pos pl := by rfl) :
    PE X (.Call (.Attribute o m apos) [] [] pos) (fun σ H Q => ta σ H fun x H1 => ∃ a dx fs, x = .ref a ∧ H1 a = some (.ins C dx fs) ∧ fs.lookup m = none ∧ sp [x] H1 Q E) := by
  refine pe_by fun I h => PySem.W.methodCall_KW (pl := pl) (thn (he.run _ _ _ _ _ I h) fun u s1 ⟨x, H1, J, ru, a, dx, fs, ex, ea, l, q⟩ => ?_) ht
  rw [ex] at ru q
  cases ru
  exact getmeth_ok J ea c hm l (PySem.W.callWith_K0 (first := [.ref a]) J.kIn hm.kp (run_fng F hr hx J (show Vals [.ref a] [.ref a] from .cons rfl .nil) rfl q))
/-- e.f, a property (its getter lets no exception out) -/
theorem pg_prop {g pr : Addr} {ff : Str} (he : PE X o ta) (c : Cls X.K C) (hp : PropOf X.K C ff pr g) (F : FnG X.prog X.w X.K X.mg X.base CX k 1 g sp) (hr : Rm (k + 1) X.A) (hx : ∀ H s e s', CX X.stack H s E e s' → False)
    (hab : attributeBase o ff X.env (eval o X.env) = eval o X.env := by rfl) : PE X (.Attribute o ff pos) (fun σ H Q => ta σ H fun x H1 => ∃ a dx fs, x = .ref a ∧ H1 a = some (.ins C dx fs) ∧ sp [x] H1 Q E) := by
  refine pe_by fun {pins s σ H Q} I h => attr_of hab (thn (he.run _ _ _ _ _ I h) fun u s1 ⟨x, H1, J, rx, a, dx, fs, ex, ea, q⟩ => ?_)
  rw [ex] at rx q
  cases rx
  have K2 := J.tok (s1.toks + 1)
  have get := PySem.W.plainGet_of (c.get ff)
  have known : (PySem.W.clsIn X.K C).isSome = true := let ⟨_, e, _⟩ := PySem.W.any_some c.hd; e ▸ rfl
  obtain ⟨_, made⟩ := hp.rec_
  obtain ⟨_, O, _⟩ := ins_get J.hok ea
  obtain ⟨_, look, _⟩ := O.look
  refine PySem.W.get_bind J.kIn look get.1 (PySem.W.findObj_data known hp.at_ hp.get hp.tak) get.2 (wpAny_call (PySem.W.prop_get (s := { s1 with toks := s1.toks + 1 }) J.kIn made ?_))
  refine codeAny_mono (F X.A.in1 X.stack _ H1 [.ref a] [.ref a] Q E hr.in1 K2.env0.in1 (.cons rfl .nil) rfl q) fun o s2 z => ?_
  obtain ⟨u, rfl, v, H2, I3, rv, y⟩ | ⟨e, _, y⟩ := seen (E' := fun _ _ => False) K2 (fun _ _ y => hx _ _ _ _ y) z
  · show wpAny (model X.prog X.w) X.A (handedOut u) _ _ _
    have hand := PySem.W.handedOut_of (handed_of rv)
    rw [hand]
    exact wpAny_pure ⟨v, H2, I3, rv, y⟩
  · exact y.elim
end
/-! ### the law's call -/
section
variable {P : Program} {w : World} {K : Frag} {mg mb : Str → Option Value} {CX : CXT} {k : Nat} {fa a : Addr} {sp : Sp} {s₁ : Shared} {vs : List Value} {ns : List Int}
/-- what the caller of a law wants -/
abbrev Good (s₁ : Shared) (r : Result) (s2 : Shared) : Prop := r = .ok (.ret (.bool true)) ∧ OldK s₁.heap s2.heap ∧ s2.os = s₁.os ∧ AllBare s2.gens
/-- the abstract heap tells of the script at most, as a frozen list -/
structure Bare1 (P : Program) (w : World) (K : Frag) (a : Addr) (ns : List Int) (H : Hp) (h : Heap) : Prop where
  only : Only H
  scr : SqL K H a (ns.map V.int)
  ok : HOk P w H h
  off : ∀ b, b ≠ a → H b = none
  notK : H a ≠ none → K.lookup a = none
/-- from such an abstract heap -/
theorem law_core (KX : K.In s₁.heap) (hns : s₁.heap.Ns mainGlobals mg) (hb : s₁.heap.Ns builtinsNs mb) (hbb : ∀ x : Str, x ≠ "__name__" → mb x = bootBuiltins x) (hlim : s₁.heap.NoLimit) (hg : s₁.gens = #[])
    (ha : s₁.heap.get? a = some { cls := .type "list", data := .seq vs.toArray }) (hr : Rm k callerA) (F : ∀ base : Heap, K.In base → base.Ns mainGlobals mg → FnG P w K mg base CX k 1 fa sp) {H : Hp} (T : Bare1 P w K a ns H s₁.heap)
    (hsp : sp [.ref a] H (fun v _ => v = .bl true) fun _ _ _ => False) (hCX : ∀ e s', CX [] H s₁ (fun _ _ _ => False) e s' → False) : codeAny (model P w) callerA (.call (.ref fa) ⟨[.ref a], []⟩) (Good s₁) s₁ := by
  -- the heap without what is tracked
  have stay : ∀ {b : Addr} {o : Obj}, s₁.heap.get? b = some o → (b = a → H a = none) → (hidT s₁.heap H).get? b = some o := fun {b o} e z => hidT_get e (by
    by_cases hba : b = a
    · rw [hba]; exact z hba
    · exact T.off b hba)
  have dict : ∀ {b : Addr} {m : Str → Option Value}, s₁.heap.Ns b m → (hidT s₁.heap H).Ns b m := fun ⟨o, es, ep, e, d, r⟩ => ⟨o, es, ep, stay e fun z => (by
    rw [z, ha] at e
    injection e with e
    rw [← e] at d
    cases d), d, r⟩
  have inK : K.In (hidT s₁.heap H) := fun b o e => stay (KX b o e) fun z => Classical.byContradiction fun n => by
    have := T.notK n
    rw [← z, e] at this
    cases this
  have env : Env0 P w K mg (hidT s₁.heap H) callerA [] s₁ H :=
    ⟨rfl, ⟨inK, dict hns, ⟨mb, dict hb, hbb⟩, hlim.imp fun _ z => ⟨dict z.1, z.2⟩⟩, fun _ _ e => of_hidT e, Nat.le_of_eq (hidT_size _ _), trivial, (fun _ z => by cases z), T.ok, .of_eq hg⟩
  refine codeAny_mono (F _ inK (dict hns) callerA [] s₁ H [.ref a] [.ref a] _ _ hr env (.cons rfl .nil) rfl hsp) fun r s2 h => ?_
  match r, h with
  | .error e, h => exact (hCX e s2 h).elim
  | .ok .next, h => exact h.elim
  | .ok .brk, h => exact h.elim
  | .ok .cont, h => exact h.elim
  | .ok (.ret u), ⟨v, H2, os, bare, un, ok2, ru, q⟩ =>
    have q : v = .bl true := q
    rw [q] at ru
    cases ru
    suffices keep : ∀ b o, s₁.heap.get? b = some o → s2.heap.get? b = some o from ⟨rfl, OldK.of_keep keep, os, bare⟩
    intro b o e
    rcases T.only b with z | ⟨ob, xs, z⟩
    · exact un.keep b o e z (List.not_mem_nil) (List.not_mem_nil)
    · have before := (T.ok b _ z).1
      have behind := (ok2 b _ (un.frzs b ob _ z)).1
      rw [before] at e
      rw [← Option.some.inj e]
      exact behind
theorem law_callG (KX : K.In s₁.heap) (hns : s₁.heap.Ns mainGlobals mg) (hb : s₁.heap.Ns builtinsNs mb) (hbb : ∀ x : Str, x ≠ "__name__" → mb x = bootBuiltins x) (hlim : s₁.heap.NoLimit) (hg : s₁.gens = #[])
    (ha : s₁.heap.get? a = some { cls := .type "list", data := .seq vs.toArray }) (hi : IntsAre vs ns) (hl : ns.length ≤ sizeLine) (hr : Rm k callerA) (F : ∀ base : Heap, K.In base → base.Ns mainGlobals mg → FnG P w K mg base CX k 1 fa sp)
    (hsp : ∀ H : Hp, Only H → SqL K H a (ns.map V.int) → sp [.ref a] H (fun v _ => v = .bl true) fun _ _ _ => False) (hCX : ∀ H e s', CX [] H s₁ (fun _ _ _ => False) e s' → False) :
    codeAny (model P w) callerA (.call (.ref fa) ⟨[.ref a], []⟩) (Good s₁) s₁ := by
  have scr := vals_ints hi
  have go : ∀ {H : Hp}, Bare1 P w K a ns H s₁.heap → codeAny (model P w) callerA (.call (.ref fa) ⟨[.ref a], []⟩) (Good s₁) s₁ := fun T => law_core KX hns hb hbb hlim hg ha hr F T (hsp _ T.only T.scr) (hCX _)
  cases hk : K.lookup a with
  | some o =>
    -- the script is the text's own: nothing is tracked
    have eo : o = { cls := .type "list", data := .seq vs.toArray } := Option.some.inj ((KX a o hk).symm.trans ha)
    rw [eo] at hk
    exact go (H := fun _ => none) ⟨fun _ => .inl rfl, .inr ⟨_, vs.toArray, _, hk, rfl, rfl, rfl, (by rw [List.size_toArray, hi.length]; exact hl), (by simpa using scr)⟩, (fun _ _ z => by cases z), fun _ _ => rfl, fun z => absurd rfl z⟩
  | none =>
    let o₁ : Obj := { cls := .type "list", data := .seq vs.toArray }
    let H₁ : Hp := fun b => if b = a then some (.frz o₁ (.lst (ns.map V.int))) else none
    have at_ : H₁ a = some (.frz o₁ (.lst (ns.map V.int))) := if_pos rfl
    have off : ∀ b, b ≠ a → H₁ b = none := fun b z => if_neg z
    refine go (H := H₁) ⟨fun b => ?_, .inl (.inr ⟨o₁, at_⟩), fun b u z => ?_, off, fun _ => hk⟩
    · exact (Classical.em (b = a)).elim (fun z => .inr ⟨_, _, z ▸ at_⟩) fun z => .inl (off b z)
    · by_cases hba : b = a
      · rw [hba, at_] at z
        rw [hba, ← Option.some.inj z]
        exact ⟨ha, (by rw [List.length_map]; exact hl), vs, _, scr, ha⟩
      · rw [off b hba] at z
        cases z
end
/-- what the head's facts give for a law's def at fa -/
abbrev LawG (l : PySem.W.OpenLaw) (w : World) (CX : CXT) (n k : Nat) (fa : Addr) (h : Heap) (mg : Str → Option Value) : Prop :=
  ∃ (K : Frag) (sp : Sp), K.In h ∧ (∀ (H : Hp) (a : Addr) (ns : List Int), ns.length ≤ n → Only H → SqL K H a (ns.map V.int) → sp [.ref a] H (fun v _ => v = .bl true) fun _ _ _ => False) ∧
    ∀ base : Heap, K.In base → base.Ns mainGlobals mg → FnG l.prog w K mg base CX k 1 fa sp
/-- the law's end -/
theorem walk_ofG {l : PySem.W.OpenLaw} {n k : Nat} {q : Program} {loose : List Str} {XP : (Str → Option Value) → Heap → Prop} {YP : World → Heap → Prop} {d : DefRec} {CX : World → CXT} (hn : l.most = some n) (hn2 : n ≤ sizeLine) (hdf : d.params.defaults = [])
    (hr : Rm k callerA) (F : ∀ (w : World) (mg : Str → Option Value) (fa : Addr) (h : Heap), YP w h → h.Ns mainGlobals mg → mg d.name = some (.ref fa) → LawG l w (CX w) n k fa h mg) (hCX : ∀ (w : World) (H : Hp) (s : Shared) (e : Value) (s' : Shared), CX w [] H s (fun _ _ _ => False) e s' → False) :
    PySem.W.WalkO q loose XP YP l.row.toRowW d [] fun f vs => PySem.call f vs :=
  Att.attach_call hn hdf fun w _ _ mg _ fa _ _ _ _ _ _ ns G Y _ _ _ hmg hobj hints hlen hg =>
    let ⟨_, _, KX, hsp, hF⟩ := F w mg fa _ Y G.T.g hmg
    law_callG KX G.T.g G.T.b G.T.builtins G.T.nolimit hg hobj hints (Nat.le_trans hlen hn2) hr hF (fun H hO hS => hsp H _ ns hlen hO hS) fun H e s2 => hCX w H _ e s2
end Dz

/-! Dz: a layer of data over HandS. A def's meaning is a plain function over data (D), values (Vl: data or a cell) and a store of mutable cells. -/
namespace Dz
open PySem PySem.Spec PyProof.Rows L2

/-! ### data -/
inductive D where
  | non | bl (b : Bool) | int (i : Int) | str (x : Str) | ty (n : String)
  | tup (xs : List D) | lst (xs : List D) | scr (ns : List Int) | dct (kvs : List (Key × D))
  | ins (c : Str) (fs : List (Str × D)) | cls (c : Str)
  deriving Inhabited
inductive Vl where
  | d (x : D) | c (n : Nat)
  deriving Inhabited
/-- a mutable cell's content -/
inductive Ob where
  | lst (xs : List D)
  | ins (c : Str) (fs : List (Str × D))
  deriving Inhabited

mutual
inductive Rep (K : Frag) (F : Hp) : D → V → Prop
  | non : Rep K F .non .non
  | bl (b : Bool) : Rep K F (.bl b) (.bl b)
  | int (i : Int) : Rep K F (.int i) (.int i)
  | str (x : Str) : Rep K F (.str x) (.str x)
  | ty (n : String) : Rep K F (.ty n) (.ty n)
  | tup {a : Addr} {vs : List V} {ds : List D} : SqT K F a vs → Reps K F ds vs → Rep K F (.tup ds) (.ref a)
  | lst {a : Addr} {vs : List V} {ds : List D} : F a = some (.lst vs) → Reps K F ds vs → Rep K F (.lst ds) (.ref a)
  | scr {a : Addr} {ns : List Int} : SqL K F a (ns.map V.int) → Rep K F (.scr ns) (.ref a)
  | dct {a : Addr} {kvs : List (Key × D)} {vs : List (Key × V)} : F a = some (.dK vs) → RepK K F kvs vs → Rep K F (.dct kvs) (.ref a)
  | ins {a dx : Addr} {c : Str} {fs : List (Str × D)} {vs : List (Str × V)} : F a = some (.ins (He.ga K c) dx vs) → RepF K F fs vs → Rep K F (.ins c fs) (.ref a)
  | cls (c : Str) : Rep K F (.cls c) (.ref (He.ga K c))
inductive Reps (K : Frag) (F : Hp) : List D → List V → Prop
  | nil : Reps K F [] []
  | cons {d : D} {v : V} {ds : List D} {vs : List V} : Rep K F d v → Reps K F ds vs → Reps K F (d :: ds) (v :: vs)
inductive RepK (K : Frag) (F : Hp) : List (Key × D) → List (Key × V) → Prop
  | nil : RepK K F [] []
  | cons {k : Key} {d : D} {v : V} {ds : List (Key × D)} {vs : List (Key × V)} : Rep K F d v → RepK K F ds vs → RepK K F ((k, d) :: ds) ((k, v) :: vs)
inductive RepF (K : Frag) (F : Hp) : List (Str × D) → List (Str × V) → Prop
  | nil : RepF K F [] []
  | cons {k : Str} {d : D} {v : V} {ds : List (Str × D)} {vs : List (Str × V)} : Rep K F d v → RepF K F ds vs → RepF K F ((k, d) :: ds) ((k, v) :: vs)
end
theorem sqT_mono {K : Frag} {F F' : Hp} {a : Addr} {xs : List V} (e : Same F F') (h : SqT K F a xs) : SqT K F' a xs := by
  rcases h with (h | ⟨o, h⟩) | h
  · exact .inl (.inl (e _ _ h))
  · exact .inl (.inr ⟨o, e _ _ h⟩)
  · exact .inr h
section
variable {K : Frag} {F F' : Hp} (e : Same F F')
include e
mutual
theorem Rep.mono : ∀ {d : D} {v : V}, Rep K F d v → Rep K F' d v
  | _, _, .non => .non
  | _, _, .bl b => .bl b
  | _, _, .int b => .int b
  | _, _, .str b => .str b
  | _, _, .ty b => .ty b
  | _, _, .tup h r => .tup (sqT_mono e h) (Reps.mono r)
  | _, _, .lst h r => .lst (e _ _ h) (Reps.mono r)
  | _, _, .scr h => .scr (e.seq h)
  | _, _, .dct h r => .dct (e _ _ h) (RepK.mono r)
  | _, _, .ins h r => .ins (e _ _ h) (RepF.mono r)
  | _, _, .cls c => .cls c
theorem Reps.mono : ∀ {ds : List D} {vs : List V}, Reps K F ds vs → Reps K F' ds vs
  | _, _, .nil => .nil
  | _, _, .cons h r => .cons (Rep.mono h) (Reps.mono r)
theorem RepK.mono : ∀ {ds : List (Key × D)} {vs : List (Key × V)}, RepK K F ds vs → RepK K F' ds vs
  | _, _, .nil => .nil
  | _, _, .cons h r => .cons (Rep.mono h) (RepK.mono r)
theorem RepF.mono : ∀ {ds : List (Str × D)} {vs : List (Str × V)}, RepF K F ds vs → RepF K F' ds vs
  | _, _, .nil => .nil
  | _, _, .cons h r => .cons (Rep.mono h) (RepF.mono r)
end
end
section
variable {K : Frag} {F : Hp}
theorem Reps.length : ∀ {ds : List D} {vs : List V}, Reps K F ds vs → ds.length = vs.length
  | _, _, .nil => rfl
  | _, _, .cons _ r => congrArg (· + 1) r.length
theorem Reps.get : ∀ {ds : List D} {vs : List V} {i : Nat} {d : D}, Reps K F ds vs → ds[i]? = some d → ∃ v, vs[i]? = some v ∧ Rep K F d v
  | _, _, _, _, .nil, h => by simp at h
  | _, _, 0, _, .cons r _, h => by simp at h; subst h; exact ⟨_, rfl, r⟩
  | _, _, i + 1, _, .cons _ r, h => by
    obtain ⟨v, h1, h2⟩ := Reps.get (i := i) r (by simpa using h)
    exact ⟨v, by simpa using h1, h2⟩
theorem Reps.get' : ∀ {ds : List D} {vs : List V} {i : Nat} {v : V}, Reps K F ds vs → vs[i]? = some v → ∃ d, ds[i]? = some d ∧ Rep K F d v
  | _, _, _, _, .nil, h => by simp at h
  | _, _, 0, _, .cons r _, h => by simp at h; subst h; exact ⟨_, rfl, r⟩
  | _, _, i + 1, _, .cons _ r, h => by
    obtain ⟨v, h1, h2⟩ := Reps.get' (i := i) r (by simpa using h)
    exact ⟨v, by simpa using h1, h2⟩
theorem Reps.append : ∀ {ds es : List D} {vs us : List V}, Reps K F ds vs → Reps K F es us → Reps K F (ds ++ es) (vs ++ us)
  | _, _, _, _, .nil, r => r
  | _, _, _, _, .cons h t, r => .cons h (t.append r)
theorem Reps.set {d : D} {v : V} (h : Rep K F d v) : ∀ {ds : List D} {vs : List V} (i : Nat), Reps K F ds vs → Reps K F (ds.set i d) (vs.set i v)
  | _, _, _, .nil => .nil
  | _, _, 0, .cons _ t => .cons h t
  | _, _, i + 1, .cons q t => .cons q (Reps.set h i t)
theorem Reps.take : ∀ {ds : List D} {vs : List V} (n : Nat), Reps K F ds vs → Reps K F (ds.take n) (vs.take n)
  | _, _, 0, _ => .nil
  | _, _, _ + 1, .nil => .nil
  | _, _, n + 1, .cons r t => .cons r (Reps.take n t)
theorem Reps.drop : ∀ {ds : List D} {vs : List V} (n : Nat), Reps K F ds vs → Reps K F (ds.drop n) (vs.drop n)
  | _, _, 0, r => r
  | _, _, _ + 1, .nil => .nil
  | _, _, n + 1, .cons _ t => Reps.drop n t
theorem RepF.look : ∀ {fs : List (Str × D)} {vs : List (Str × V)} {f : Str} {d : D}, RepF K F fs vs → fs.lookup f = some d → ∃ v, vs.lookup f = some v ∧ Rep K F d v
  | _, _, _, _, .nil, h => by cases h
  | (k, d0) :: fs, (_, v0) :: vs, f, d, .cons r rs, h => by
    unfold List.lookup at h ⊢
    cases q : (f == k) with
    | true => rw [q] at h; cases h; exact ⟨v0, rfl, r⟩
    | false => rw [q] at h; exact RepF.look rs h
theorem RepF.none_of : ∀ {fs : List (Str × D)} {vs : List (Str × V)} {f : Str}, RepF K F fs vs → fs.lookup f = none → vs.lookup f = none
  | _, _, _, .nil, h => rfl
  | (k, d0) :: fs, (_, v0) :: vs, f, .cons r rs, h => by
    unfold List.lookup at h ⊢
    cases q : (f == k) with
    | true => rw [q] at h; cases h
    | false => rw [q] at h; exact RepF.none_of rs h
theorem RepF.length : ∀ {fs : List (Str × D)} {vs : List (Str × V)}, RepF K F fs vs → fs.length = vs.length
  | _, _, .nil => rfl
  | _, _, .cons _ r => congrArg (· + 1) r.length
theorem reps_ints (F : Hp) (K : Frag) : ∀ ns : List Int, Reps K F (ns.map D.int) (ns.map V.int)
  | [] => .nil
  | n :: ns => .cons (.int n) (reps_ints F K ns)
end

/-! ### the store and the heap -/
abbrev Sto := List Ob
inductive ObRep (K : Frag) (F : Hp) : Ob → HO → Prop
  | lst {ds : List D} {vs : List V} : Reps K F ds vs → ObRep K F (.lst ds) (.lst vs)
  | ins {c : Str} {dx : Addr} {fs : List (Str × D)} {vs : List (Str × V)} : RepF K F fs vs → ObRep K F (.ins c fs) (.ins (He.ga K c) dx vs)
theorem ObRep.mono {K : Frag} {F F' : Hp} (e : Same F F') {b : Ob} {o : HO} (h : ObRep K F b o) : ObRep K F' b o := by
  cases h with
  | lst r => exact .lst (r.mono e)
  | ins r => exact .ins (r.mono e)
/-- F: frozen; m: the cells' places; G: a frame that is left as it is; S: the store -/
structure Wd (K : Frag) (F : Hp) (m : List Addr) (G : Hp) (S : Sto) (H : Hp) : Prop where
  sub : Same F H
  gsub : Same G H
  gF : ∀ (a : Addr) (o : HO), G a = some o → F a = none
  gm : ∀ (n : Nat) (a : Addr), m[n]? = some a → G a = none
  len : m.length = S.length
  cells : ∀ (n : Nat) (a : Addr) (b : Ob), m[n]? = some a → S[n]? = some b → ∃ o, H a = some o ∧ ObRep K F b o
  off : ∀ (n : Nat) (a : Addr), m[n]? = some a → F a = none
  inj : ∀ (n k : Nat) (a : Addr), m[n]? = some a → m[k]? = some a → n = k
def RepV (K : Frag) (F : Hp) (m : List Addr) : Vl → V → Prop
  | .d x, v => Rep K F x v
  | .c n, v => ∃ a, m[n]? = some a ∧ v = .ref a
inductive RepVs (K : Frag) (F : Hp) (m : List Addr) : List Vl → List V → Prop
  | nil : RepVs K F m [] []
  | cons {x : Vl} {v : V} {xs : List Vl} {vs : List V} : RepV K F m x v → RepVs K F m xs vs → RepVs K F m (x :: xs) (v :: vs)
/-- what may come: more frozen, more cells -/
structure Ext (F F' : Hp) (m m' : List Addr) : Prop where
  fro : Same F F'
  pre : m <+: m'
theorem Ext.refl (F : Hp) (m : List Addr) : Ext F F m m := ⟨Same.refl F, List.prefix_refl m⟩
theorem Ext.trans {F F1 F2 : Hp} {m m1 m2 : List Addr} (a : Ext F F1 m m1) (b : Ext F1 F2 m1 m2) : Ext F F2 m m2 := ⟨a.fro.trans b.fro, a.pre.trans b.pre⟩
theorem Ext.at {F F' : Hp} {m m' : List Addr} (e : Ext F F' m m') {n : Nat} {a : Addr} (h : m[n]? = some a) : m'[n]? = some a := by
  obtain ⟨t, rfl⟩ := e.pre
  have hn : n < m.length := (List.getElem?_eq_some_iff.mp h).1
  rw [List.getElem?_append_left hn]
  exact h
theorem RepV.mono {K : Frag} {F F' : Hp} {m m' : List Addr} (e : Ext F F' m m') {x : Vl} {v : V} (h : RepV K F m x v) : RepV K F' m' x v := by
  cases x with
  | d x => exact Rep.mono e.fro h
  | c n =>
    obtain ⟨a, h1, h2⟩ := h
    exact ⟨a, e.at h1, h2⟩
theorem RepVs.mono {K : Frag} {F F' : Hp} {m m' : List Addr} (e : Ext F F' m m') : ∀ {xs : List Vl} {vs : List V}, RepVs K F m xs vs → RepVs K F' m' xs vs
  | _, _, .nil => .nil
  | _, _, .cons h r => .cons (h.mono e) (RepVs.mono e r)
theorem RepVs.length {K : Frag} {F : Hp} {m : List Addr} : ∀ {xs : List Vl} {vs : List V}, RepVs K F m xs vs → xs.length = vs.length
  | _, _, .nil => rfl
  | _, _, .cons _ r => congrArg (· + 1) r.length
section
variable {K : Frag} {F G H : Hp} {m : List Addr} {S : Sto}
theorem Wd.ne (w : Wd K F m G S H) {p : Addr} (hp : H p = none) {n : Nat} {a : Addr} (h : m[n]? = some a) : a ≠ p := by
  have hn : n < m.length := (List.getElem?_eq_some_iff.mp h).1
  have hs : n < S.length := by rw [← w.len]; exact hn
  obtain ⟨o, ho, _⟩ := w.cells n a _ h (List.getElem?_eq_getElem hs)
  exact ne_of_none ho hp
theorem Wd.fresh (w : Wd K F m G S H) {p : Addr} (hp : H p = none) : F p = none := by
  cases q : F p with
  | none => rfl
  | some o => rw [w.sub _ _ q] at hp; cases hp
theorem Wd.gfresh (w : Wd K F m G S H) {p : Addr} (hp : H p = none) : G p = none := by
  cases q : G p with
  | none => rfl
  | some o => rw [w.gsub _ _ q] at hp; cases hp
theorem same_upd {F : Hp} {p : Addr} {o : HO} (h : F p = none) : Same F (upd F p o) := fun b x e => by
  rw [upd_ne (ne_of_none e h)]; exact e
/-- a frozen object is laid -/
theorem Wd.lay (w : Wd K F m G S H) {p : Addr} (hp : H p = none) (o : HO) : Wd K (upd F p o) m G S (upd H p o) where
  sub := fun b x e => by
    by_cases hb : b = p
    · subst hb; rw [upd_same] at e ⊢; exact e
    · rw [upd_ne hb] at e ⊢; exact w.sub b x e
  gsub := fun b x e => by rw [upd_ne (ne_of_none e (w.gfresh hp))]; exact w.gsub b x e
  gF := fun b x e => by rw [upd_ne (ne_of_none e (w.gfresh hp))]; exact w.gF b x e
  gm := w.gm
  len := w.len
  cells := fun n a b h1 h2 => by
    obtain ⟨x, hx, r⟩ := w.cells n a b h1 h2
    exact ⟨x, by rw [upd_ne (w.ne hp h1)]; exact hx, r.mono (same_upd (w.fresh hp))⟩
  off := fun n a h => by rw [upd_ne (w.ne hp h)]; exact w.off n a h
  inj := w.inj
theorem Ext.lay {F : Hp} {m : List Addr} {p : Addr} {o : HO} (h : F p = none) : Ext F (upd F p o) m m := ⟨same_upd h, List.prefix_refl m⟩
/-- a cell is laid -/
theorem Wd.cell (w : Wd K F m G S H) {p : Addr} (hp : H p = none) {b : Ob} {o : HO} (r : ObRep K F b o) : Wd K F (m ++ [p]) G (S ++ [b]) (upd H p o) where
  sub := fun c x e => by rw [upd_ne (ne_of_none e (w.fresh hp))]; exact w.sub c x e
  gsub := fun c x e => by rw [upd_ne (ne_of_none e (w.gfresh hp))]; exact w.gsub c x e
  gF := w.gF
  gm := fun n a h1 => by
    by_cases hn : n < m.length
    · rw [List.getElem?_append_left hn] at h1
      exact w.gm n a h1
    · rw [List.getElem?_append_right (by omega)] at h1
      have hz : n - m.length = 0 := by
        have := (List.getElem?_eq_some_iff.mp h1).1
        simp at this; omega
      rw [hz] at h1
      simp at h1
      subst h1
      exact w.gfresh hp
  len := by rw [List.length_append, List.length_append, w.len]; rfl
  cells := fun n a c h1 h2 => by
    by_cases hn : n < m.length
    · rw [List.getElem?_append_left hn] at h1
      rw [List.getElem?_append_left (by rw [← w.len]; exact hn)] at h2
      obtain ⟨x, hx, r⟩ := w.cells n a c h1 h2
      exact ⟨x, by rw [upd_ne (w.ne hp h1)]; exact hx, r⟩
    · rw [List.getElem?_append_right (by omega)] at h1
      rw [List.getElem?_append_right (by rw [← w.len]; omega)] at h2
      have hz : n - m.length = 0 := by
        have := (List.getElem?_eq_some_iff.mp h1).1
        simp at this; omega
      rw [hz] at h1
      rw [← w.len, hz] at h2
      simp at h1 h2
      subst h1 h2
      exact ⟨o, upd_same, r⟩
  off := fun n a h1 => by
    by_cases hn : n < m.length
    · rw [List.getElem?_append_left hn] at h1
      exact w.off n a h1
    · rw [List.getElem?_append_right (by omega)] at h1
      have hz : n - m.length = 0 := by
        have := (List.getElem?_eq_some_iff.mp h1).1
        simp at this; omega
      rw [hz] at h1
      simp at h1
      subst h1
      exact w.fresh hp
  inj := fun n k a h1 h2 => by
    have key : ∀ (j : Nat), (m ++ [p])[j]? = some a → (j < m.length ∧ m[j]? = some a) ∨ (j = m.length ∧ a = p) := fun j h => by
      by_cases hn : j < m.length
      · rw [List.getElem?_append_left hn] at h
        exact .inl ⟨hn, h⟩
      · rw [List.getElem?_append_right (by omega)] at h
        have hz : j - m.length = 0 := by
          have := (List.getElem?_eq_some_iff.mp h).1
          simp at this; omega
        rw [hz] at h
        simp at h
        exact .inr ⟨by omega, h.symm⟩
    rcases key n h1 with ⟨_, q1⟩ | ⟨e1, q1⟩ <;> rcases key k h2 with ⟨_, q2⟩ | ⟨e2, q2⟩
    · exact w.inj n k a q1 q2
    · exact absurd q2 (w.ne hp q1)
    · exact absurd q1 (w.ne hp q2)
    · omega
theorem Ext.cell {F : Hp} {m : List Addr} (p : Addr) : Ext F F m (m ++ [p]) := ⟨Same.refl F, List.prefix_append m [p]⟩
/-- a cell is written -/
theorem Wd.write (w : Wd K F m G S H) {n : Nat} {a : Addr} (hn : m[n]? = some a) {b : Ob} {o : HO} (r : ObRep K F b o) : Wd K F m G (S.set n b) (upd H a o) where
  sub := fun c x e => by
    have hc : c ≠ a := fun z => by subst z; rw [w.off n c hn] at e; cases e
    rw [upd_ne hc]; exact w.sub c x e
  gsub := fun c x e => by
    have hc : c ≠ a := fun z => by subst z; rw [w.gm n c hn] at e; cases e
    rw [upd_ne hc]; exact w.gsub c x e
  gF := w.gF
  gm := w.gm
  len := by rw [List.length_set]; exact w.len
  cells := fun k c x h1 h2 => by
    by_cases hk : k = n
    · subst hk
      rw [hn] at h1; cases h1
      have hl : k < S.length := by rw [← w.len]; exact (List.getElem?_eq_some_iff.mp hn).1
      rw [List.getElem?_set_self hl] at h2; cases h2
      exact ⟨o, upd_same, r⟩
    · rw [List.getElem?_set_ne (fun z => hk z.symm)] at h2
      obtain ⟨y, hy, q⟩ := w.cells k c x h1 h2
      have hc : c ≠ a := fun z => hk (w.inj k n c h1 (by rw [z]; exact hn))
      exact ⟨y, by rw [upd_ne hc]; exact hy, q⟩
  off := w.off
  inj := w.inj
/-- young cells are forgotten -/
theorem Wd.cut (w : Wd K F m G S H) (n : Nat) : Wd K F (m.take n) G (S.take n) H where
  sub := w.sub
  gsub := w.gsub
  gF := w.gF
  gm := fun k a h1 => by
    have hk : k < n := by
      have := (List.getElem?_eq_some_iff.mp h1).1
      rw [List.length_take] at this; omega
    rw [List.getElem?_take_of_lt hk] at h1
    exact w.gm k a h1
  len := by rw [List.length_take, List.length_take, w.len]
  cells := fun k a b h1 h2 => by
    have hk : k < n := by
      have := (List.getElem?_eq_some_iff.mp h1).1
      rw [List.length_take] at this; omega
    rw [List.getElem?_take_of_lt hk] at h1 h2
    exact w.cells k a b h1 h2
  off := fun k a h1 => by
    have hk : k < n := by
      have := (List.getElem?_eq_some_iff.mp h1).1
      rw [List.length_take] at this; omega
    rw [List.getElem?_take_of_lt hk] at h1
    exact w.off k a h1
  inj := fun k j a h1 h2 => by
    have hk : k < n := by
      have := (List.getElem?_eq_some_iff.mp h1).1
      rw [List.length_take] at this; omega
    have hj : j < n := by
      have := (List.getElem?_eq_some_iff.mp h2).1
      rw [List.length_take] at this; omega
    rw [List.getElem?_take_of_lt hk] at h1
    rw [List.getElem?_take_of_lt hj] at h2
    exact w.inj k j a h1 h2
/-- .. but one, which becomes the last -/
theorem Wd.cut1 (w : Wd K F m G S H) {n k : Nat} {a : Addr} {b : Ob} (hk : n ≤ k) (h1 : m[k]? = some a) (h2 : S[k]? = some b) : Wd K F (m.take n ++ [a]) G (S.take n ++ [b]) H := by
  have hkm : k < m.length := (List.getElem?_eq_some_iff.mp h1).1
  have hkS : k < S.length := (List.getElem?_eq_some_iff.mp h2).1
  have ln : (m.take n).length = n := by rw [List.length_take]; omega
  have lS : (S.take n).length = n := by rw [List.length_take]; omega
  have key : ∀ (j : Nat) (c : Addr), (m.take n ++ [a])[j]? = some c → (j < n ∧ m[j]? = some c) ∨ (j = n ∧ c = a) := fun j c h => by
    by_cases hj : j < n
    · rw [List.getElem?_append_left (by omega), List.getElem?_take_of_lt hj] at h
      exact .inl ⟨hj, h⟩
    · rw [List.getElem?_append_right (by omega), ln] at h
      have hz : j - n = 0 := by
        have := (List.getElem?_eq_some_iff.mp h).1
        simp at this; omega
      rw [hz] at h
      simp at h
      exact .inr ⟨by omega, h.symm⟩
  refine ⟨w.sub, w.gsub, w.gF, fun j c e => ?_, by rw [List.length_append, List.length_append, ln, lS]; rfl, fun j c x e1 e2 => ?_, fun j c e => ?_, fun j i c e1 e2 => ?_⟩
  · rcases key j c e with ⟨hj, q⟩ | ⟨rfl, rfl⟩
    · exact w.gm j c q
    · exact w.gm k c h1
  · rcases key j c e1 with ⟨hj, q⟩ | ⟨rfl, rfl⟩
    · rw [List.getElem?_append_left (by omega), List.getElem?_take_of_lt hj] at e2
      exact w.cells j c x q e2
    · rw [List.getElem?_append_right (by omega), lS, Nat.sub_self] at e2
      simp at e2
      subst e2
      exact w.cells k c b h1 h2
  · rcases key j c e with ⟨hj, q⟩ | ⟨rfl, rfl⟩
    · exact w.off j c q
    · exact w.off k c h1
  · rcases key j c e1 with ⟨hj, q⟩ | ⟨rfl, rfl⟩ <;> rcases key i c e2 with ⟨hi, q'⟩ | ⟨rfl, q'⟩
    · exact w.inj j i c q q'
    · subst q'
      have := w.inj j k c q h1
      omega
    · have := w.inj i k c q' h1
      omega
    · rfl
end

/-! ### computations -/
/-- an exception: its class, by name, and what it keeps -/
inductive Exn where
  | mk (c : Str) (fs : List (Str × D))
  deriving Inhabited
inductive R (α : Type) where
  | ok (a : α) (S : Sto)
  | err (x : Exn) (S : Sto)
  | no
abbrev M (α : Type) := Sto → R α
def pur {α : Type} (a : α) : M α := fun S => .ok a S
def bnd {α β : Type} (f : M α) (g : α → M β) : M β := fun S => match f S with
  | .ok a S' => g a S'
  | .err x S' => .err x S'
  | .no => .no
def stuck {α : Type} : M α := fun _ => .no
abbrev Env := List (Option Vl)
structure RepE (K : Frag) (F : Hp) (m : List Addr) (ρ : Env) (σ : L2.St) : Prop where
  len : ρ.length = σ.length
  at_ : ∀ (i : Nat) (x : Vl), ρ[i]? = some (some x) → ∃ v, σ[i]? = some (some v) ∧ RepV K F m x v
theorem RepE.mono {K : Frag} {F F' : Hp} {m m' : List Addr} (e : Ext F F' m m') {ρ : Env} {σ : L2.St} (h : RepE K F m ρ σ) : RepE K F' m' ρ σ :=
  ⟨h.len, fun i x q => let ⟨v, h1, h2⟩ := h.at_ i x q; ⟨v, h1, h2.mono e⟩⟩
theorem RepE.set {K : Frag} {F : Hp} {m : List Addr} {ρ : Env} {σ : L2.St} (h : RepE K F m ρ σ) {x : Vl} {v : V} (r : RepV K F m x v) (i : Nat) : RepE K F m (ρ.set i (some x)) (σ.set i (some v)) := by
  refine ⟨by rw [List.length_set, List.length_set]; exact h.len, fun j y q => ?_⟩
  by_cases hj : j = i
  · subst hj
    by_cases hl : j < ρ.length
    · rw [List.getElem?_set_self hl] at q
      cases q
      exact ⟨v, List.getElem?_set_self (by rw [← h.len]; exact hl), r⟩
    · rw [List.getElem?_eq_none (by rw [List.length_set]; omega)] at q
      cases q
  · rw [List.getElem?_set_ne (fun z => hj z.symm)] at q
    obtain ⟨u, h1, h2⟩ := h.at_ j y q
    exact ⟨u, by rw [List.getElem?_set_ne (fun z => hj z.symm)]; exact h1, h2⟩
theorem RepE.unset {K : Frag} {F : Hp} {m : List Addr} {ρ : Env} {σ : L2.St} (h : RepE K F m ρ σ) (i : Nat) (z : Option V) : RepE K F m (ρ.set i none) (σ.set i z) := by
  refine ⟨by rw [List.length_set, List.length_set]; exact h.len, fun j y q => ?_⟩
  by_cases hj : j = i
  · subst hj
    by_cases hl : j < ρ.length
    · rw [List.getElem?_set_self hl] at q; cases q
    · rw [List.getElem?_eq_none (by rw [List.length_set]; omega)] at q; cases q
  · rw [List.getElem?_set_ne (fun z => hj z.symm)] at q
    obtain ⟨u, h1, h2⟩ := h.at_ j y q
    exact ⟨u, by rw [List.getElem?_set_ne (fun z => hj z.symm)]; exact h1, h2⟩

/-! ### frames -/
section
variable {K : Frag} {F G H : Hp} {m : List Addr} {S : Sto}
/-- an object that is neither frozen nor a cell joins the frame -/
theorem Wd.frame (w : Wd K F m G S H) {p : Addr} {o : HO} (hp : H p = some o) (hF : F p = none) (hm : ∀ n : Nat, m[n]? ≠ some p) : Wd K F m (upd G p o) S H where
  sub := w.sub
  gsub := fun b x e => by
    by_cases hb : b = p
    · subst hb; rw [upd_same] at e; cases e; exact hp
    · rw [upd_ne hb] at e; exact w.gsub b x e
  gF := fun b x e => by
    by_cases hb : b = p
    · subst hb; exact hF
    · rw [upd_ne hb] at e; exact w.gF b x e
  gm := fun n a h => by
    have hb : a ≠ p := fun z => hm n (by rw [← z]; exact h)
    rw [upd_ne hb]; exact w.gm n a h
  len := w.len
  cells := w.cells
  off := w.off
  inj := w.inj
/-- .. and leaves it, turned -/
theorem Wd.unframe {p : Addr} {o o' : HO} (w : Wd K F m (upd G p o) S H) (hG : G p = none) : Wd K F m G S (upd H p o') where
  sub := fun b x e => by
    have hb : b ≠ p := fun z => by
      subst z
      rw [w.gF b o upd_same] at e; cases e
    rw [upd_ne hb]; exact w.sub b x e
  gsub := fun b x e => by
    have hb : b ≠ p := ne_of_none e hG
    rw [upd_ne hb]
    exact w.gsub b x (by rw [upd_ne hb]; exact e)
  gF := fun b x e => w.gF b x (by rw [upd_ne (ne_of_none e hG)]; exact e)
  gm := fun n a h => by
    have hb : a ≠ p := fun z => by
      have := w.gm n a h
      rw [z, upd_same] at this; cases this
    have := w.gm n a h
    rw [upd_ne hb] at this; exact this
  len := w.len
  cells := fun n a b h1 h2 => by
    have hb : a ≠ p := fun z => by
      have := w.gm n a h1
      rw [z, upd_same] at this; cases this
    obtain ⟨x, hx, r⟩ := w.cells n a b h1 h2
    exact ⟨x, by rw [upd_ne hb]; exact hx, r⟩
  off := w.off
  inj := w.inj
/-- what stands in the frame is frozen for good -/
theorem Wd.freeze {p : Addr} {o : HO} (w : Wd K F m (upd G p o) S H) (hG : G p = none) : Wd K (upd F p o) m G S H where
  sub := fun b x e => by
    by_cases hb : b = p
    · subst hb; rw [upd_same] at e; cases e; exact w.gsub b _ upd_same
    · rw [upd_ne hb] at e; exact w.sub b x e
  gsub := fun b x e => w.gsub b x (by rw [upd_ne (ne_of_none e hG)]; exact e)
  gF := fun b x e => by
    have hb : b ≠ p := ne_of_none e hG
    rw [upd_ne hb]; exact w.gF b x (by rw [upd_ne hb]; exact e)
  gm := fun n a h => by
    have hb : a ≠ p := fun z => by
      have := w.gm n a h
      rw [z, upd_same] at this; cases this
    have := w.gm n a h
    rw [upd_ne hb] at this; exact this
  len := w.len
  cells := fun n a b h1 h2 => by
    obtain ⟨x, hx, r⟩ := w.cells n a b h1 h2
    exact ⟨x, hx, r.mono (same_upd (w.gF p o upd_same))⟩
  off := fun n a h => by
    have hb : a ≠ p := fun z => by
      have := w.gm n a h
      rw [z, upd_same] at this; cases this
    rw [upd_ne hb]; exact w.off n a h
  inj := w.inj
/-- .. becomes a cell -/
theorem Wd.thaw {p : Addr} {o : HO} {b : Ob} (w : Wd K F m (upd G p o) S H) (hG : G p = none) (r : ObRep K F b o) : Wd K F (m ++ [p]) G (S ++ [b]) H := by
  have hp : H p = some o := w.gsub p o upd_same
  have hm : ∀ n : Nat, m[n]? ≠ some p := fun n z => by
    have := w.gm n p z
    rw [upd_same] at this; cases this
  have key : ∀ (j : Nat) (a : Addr), (m ++ [p])[j]? = some a → (j < m.length ∧ m[j]? = some a) ∨ (j = m.length ∧ a = p) := fun j a h => by
    by_cases hn : j < m.length
    · rw [List.getElem?_append_left hn] at h
      exact .inl ⟨hn, h⟩
    · rw [List.getElem?_append_right (by omega)] at h
      have hz : j - m.length = 0 := by
        have := (List.getElem?_eq_some_iff.mp h).1
        simp at this; omega
      rw [hz] at h
      simp at h
      exact .inr ⟨by omega, h.symm⟩
  refine ⟨w.sub, fun b x e => w.gsub b x (by rw [upd_ne (ne_of_none e hG)]; exact e), fun b x e => w.gF b x (by rw [upd_ne (ne_of_none e hG)]; exact e), fun n a h => ?_, by rw [List.length_append, List.length_append, w.len]; rfl, fun n a c h1 h2 => ?_, fun n a h => ?_, fun n k a h1 h2 => ?_⟩
  · rcases key n a h with ⟨_, q⟩ | ⟨_, rfl⟩
    · have hb : a ≠ p := fun z => hm n (by rw [← z]; exact q)
      have := w.gm n a q
      rw [upd_ne hb] at this; exact this
    · exact hG
  · rcases key n a h1 with ⟨hn, q⟩ | ⟨rfl, rfl⟩
    · rw [List.getElem?_append_left (by rw [← w.len]; exact hn)] at h2
      exact w.cells n a c q h2
    · rw [w.len, List.getElem?_append_right (Nat.le_refl _), Nat.sub_self] at h2
      simp at h2
      subst h2
      exact ⟨o, hp, r⟩
  · rcases key n a h with ⟨_, q⟩ | ⟨_, rfl⟩
    · exact w.off n a q
    · exact w.gF a o upd_same
  · rcases key n a h1 with ⟨_, q⟩ | ⟨e1, q⟩ <;> rcases key k a h2 with ⟨_, q'⟩ | ⟨e2, q'⟩
    · exact w.inj n k a q q'
    · exact absurd (by rw [← q']; exact q) (hm n)
    · exact absurd (by rw [← q]; exact q') (hm k)
    · omega
/-- a new object joins the frame -/
theorem Wd.push (w : Wd K F m G S H) {p : Addr} (hp : H p = none) (o : HO) : Wd K F m (upd G p o) S (upd H p o) := by
  have w1 : Wd K F m G S (upd H p o) := ⟨fun b x e => by rw [upd_ne (ne_of_none e (w.fresh hp))]; exact w.sub b x e, fun b x e => by rw [upd_ne (ne_of_none e (w.gfresh hp))]; exact w.gsub b x e, w.gF, w.gm, w.len,
    fun n a b h1 h2 => by
      obtain ⟨x, hx, r⟩ := w.cells n a b h1 h2
      exact ⟨x, by rw [upd_ne (w.ne hp h1)]; exact hx, r⟩, w.off, w.inj⟩
  exact w1.frame upd_same (w.fresh hp) fun n z => (w.ne hp z) rfl
end

/-- an exception as it flies: its class, its dict -/
def ExRep (K : Frag) (F : Hp) : Exn → Value → Option Addr → Prop
  | .mk c fs, cls, d => cls = .ref (He.ga K c) ∧ ((fs = [] ∧ d = none) ∨ ∃ dd vs, d = some dd ∧ F dd = some (.xd vs) ∧ RepF K F fs vs)
/-- what is wanted where an exception leaves -/
abbrev ErT := Exn → Hp → Hp → Prop
def er0 : ErT := fun _ _ _ => False
def erE (K : Frag) (E : XK) : ErT := fun x F H => ∀ cls d, ExRep K F x cls d → E cls d H
/-- the readings -/
def res {α β : Type} (K : Frag) (Er : ErT) (Rel : Hp → List Addr → α → β → Prop) (F : Hp) (m : List Addr) (G : Hp) (r : R α) (Q : β → Hp → Prop) : Prop := match r with
  | .ok a S' => ∀ (F' : Hp) (m' : List Addr) (H' : Hp) (b : β), Ext F F' m m' → Wd K F' m' G S' H' → Rel F' m' a b → Q b H'
  | .err x S' => ∀ (F' : Hp) (m' : List Addr) (H' : Hp), Ext F F' m m' → Wd K F' m' G S' H' → Er x F' H'
  | .no => False
abbrev rV (K : Frag) : Hp → List Addr → Vl → V → Prop := fun F m => RepV K F m
abbrev rVs (K : Frag) : Hp → List Addr → List Vl → List V → Prop := fun F m => RepVs K F m
abbrev rB : Hp → List Addr → Bool → Bool → Prop := fun _ _ a b => a = b
def rd {α β : Type} (K : Frag) (Er : ErT) (Rel : Hp → List Addr → α → β → Prop) (f : Env → M α) : L2.St → Hp → (β → Hp → Prop) → Prop := fun σ H Q => ∃ F m G S ρ, Wd K F m G S H ∧ RepE K F m ρ σ ∧ res K Er Rel F m G (f ρ S) Q
abbrev tE (K : Frag) (Er : ErT) (f : Env → M Vl) : TE := rd K Er (rV K) f
abbrev tT (K : Frag) (Er : ErT) (f : Env → M Bool) : TT := rd K Er rB f
abbrev tA (K : Frag) (Er : ErT) (f : Env → M (List Vl)) : TA := rd K Er (rVs K) f
inductive Out where
  | nx (ρ : Env) | rt (x : Vl) | bk (ρ : Env) | ct (ρ : Env)
def outS (K : Frag) (D : Ends) (F : Hp) (m : List Addr) (H : Hp) : Out → Prop
  | .nx ρ => ∀ σ, RepE K F m ρ σ → D.nx σ H
  | .rt x => ∀ v, RepV K F m x v → D.rt v H
  | .bk ρ => ∀ σ, RepE K F m ρ σ → D.bk σ H
  | .ct ρ => ∀ σ, RepE K F m ρ σ → D.ct σ H
def resS (K : Frag) (Er : ErT) (D : Ends) (F : Hp) (m : List Addr) (G : Hp) (r : R Out) : Prop := match r with
  | .ok o S' => ∀ (F' : Hp) (m' : List Addr) (H' : Hp), Ext F F' m m' → Wd K F' m' G S' H' → outS K D F' m' H' o
  | .err x S' => ∀ (F' : Hp) (m' : List Addr) (H' : Hp), Ext F F' m m' → Wd K F' m' G S' H' → Er x F' H'
  | .no => False
def tS (K : Frag) (Er : ErT) (f : Env → M Out) : TS := fun D σ H => ∃ F m G S ρ, Wd K F m G S H ∧ RepE K F m ρ σ ∧ resS K Er D F m G (f ρ S)
/-- the judgements -/
abbrev ME (X : Cx) (Er : ErT) (e : Expr) (f : Env → M Vl) : Prop := PE X e (tE X.K Er f)
abbrev MT (X : Cx) (Er : ErT) (e : Expr) (f : Env → M Bool) : Prop := PT X e (tT X.K Er f)
abbrev MA (X : Cx) (Er : ErT) (es : List Expr) (f : Env → M (List Vl)) : Prop := PA X es (tA X.K Er f)
abbrev MS (X : Cx) (Er : ErT) (st : Stmt) (f : Env → M Out) : Prop := PS X st (tS X.K Er f)
abbrev MSs (X : Cx) (Er : ErT) (st : List Stmt) (f : Env → M Out) : Prop := PSs X st (tS X.K Er f)
theorem PE.imp {X : Cx} {e : Expr} {t t' : TE} (h : PE X e t) (i : ∀ σ H Q, t' σ H Q → t σ H Q) : PE X e t' := ⟨fun pins s σ H Q I q => h.run pins s σ H Q I (i σ H Q q)⟩
theorem PT.imp {X : Cx} {e : Expr} {t t' : TT} (h : PT X e t) (i : ∀ σ H Q, t' σ H Q → t σ H Q) : PT X e t' := ⟨fun pins s σ H Q I q => h.run pins s σ H Q I (i σ H Q q)⟩
theorem PA.imp {X : Cx} {e : List Expr} {t t' : TA} (h : PA X e t) (i : ∀ σ H Q, t' σ H Q → t σ H Q) : PA X e t' := ⟨fun p pins s σ H Q I q => h.run p pins s σ H Q I (i σ H Q q)⟩
theorem PS.imp {X : Cx} {e : Stmt} {t t' : TS} (h : PS X e t) (i : ∀ D σ H, t' D σ H → t D σ H) : PS X e t' := ⟨fun pins s σ H D I q => h.run pins s σ H D I (i D σ H q)⟩
theorem PSs.imp {X : Cx} {e : List Stmt} {t t' : TS} (h : PSs X e t) (i : ∀ D σ H, t' D σ H → t D σ H) : PSs X e t' := ⟨fun pins s σ H D I q => h.run pins s σ H D I (i D σ H q)⟩

section
variable {α β γ δ : Type} {K : Frag} {A : Hp → List Addr → α → β → Prop} {B : Hp → List Addr → γ → δ → Prop} {F F1 G H : Hp} {m m1 : List Addr} {S : Sto} {ρ : Env} {σ : L2.St}
theorem res_ext {r : R α} {Q : β → Hp → Prop} (e : Ext F F1 m m1) (h : res K Er A F m G r Q) : res K Er A F1 m1 G r Q := by
  cases r with
  | ok a S' => exact fun F' m' H' b e' w r => h F' m' H' b (e.trans e') w r
  | err x S' => exact fun F' m' H' e' w => h F' m' H' (e.trans e') w
  | no => exact h
theorem resS_ext {r : R Out} {D : Ends} (e : Ext F F1 m m1) (h : resS K Er D F m G r) : resS K Er D F1 m1 G r := by
  cases r with
  | ok a S' => exact fun F' m' H' e' w => h F' m' H' (e.trans e') w
  | err x S' => exact fun F' m' H' e' w => h F' m' H' (e.trans e') w
  | no => exact h
/-- the answer is there -/
theorem res_ok {a : α} {b : β} {Q : β → Hp → Prop} (w : Wd K F m G S H) (r : A F m a b) (h : res K Er A F m G (.ok a S) Q) : Q b H := h F m H b (Ext.refl F m) w r
/-- what bnd f g reads, from the reading of f -/
theorem rd_bnd {f : Env → M α} {g : α → M γ} {Q : δ → Hp → Prop} (w : Wd K F m G S H) (r : RepE K F m ρ σ) (h : res K Er B F m G (bnd (f ρ) g S) Q) :
    rd K Er A f σ H fun b H' => ∃ F' m' S' a, Ext F F' m m' ∧ Wd K F' m' G S' H' ∧ RepE K F' m' ρ σ ∧ A F' m' a b ∧ res K Er B F' m' G (g a S') Q := by
  refine ⟨F, m, G, S, ρ, w, r, ?_⟩
  unfold bnd at h
  cases q : f ρ S with
  | ok a S' =>
    rw [q] at h
    exact fun F' m' H' b e w' rb => ⟨F', m', S', a, e, w', r.mono e, rb, res_ext e h⟩
  | err x S' => rw [q] at h; exact h
  | no => rw [q] at h; exact h.elim
theorem rd_bndS {f : Env → M α} {g : α → M Out} {D : Ends} (w : Wd K F m G S H) (r : RepE K F m ρ σ) (h : resS K Er D F m G (bnd (f ρ) g S)) :
    rd K Er A f σ H fun b H' => ∃ F' m' S' a, Ext F F' m m' ∧ Wd K F' m' G S' H' ∧ RepE K F' m' ρ σ ∧ A F' m' a b ∧ resS K Er D F' m' G (g a S') := by
  refine ⟨F, m, G, S, ρ, w, r, ?_⟩
  unfold bnd at h
  cases q : f ρ S with
  | ok a S' =>
    rw [q] at h
    exact fun F' m' H' b e w' rb => ⟨F', m', S', a, e, w', r.mono e, rb, resS_ext e h⟩
  | err x S' => rw [q] at h; exact h
  | no => rw [q] at h; exact h.elim
/-- the reading holds of what it says -/
theorem rd_mono {f : Env → M α} {Q Q' : β → Hp → Prop} (h : rd K Er A f σ H Q) (i : ∀ b H', Q b H' → Q' b H') : rd K Er A f σ H Q' := by
  obtain ⟨F, m, G, S, ρ, w, r, h⟩ := h
  refine ⟨F, m, G, S, ρ, w, r, ?_⟩
  cases q : f ρ S with
  | ok a S' => rw [q] at h; exact fun F' m' H' b e w' rb => i b H' (h F' m' H' b e w' rb)
  | err x S' => rw [q] at h; exact h
  | no => rw [q] at h; exact h.elim
end
end Dz

/-! Dz2: expressions. -/
namespace Dz
open PySem PySem.Spec PyProof.Rows L2

/-! ### names, constants -/
def eVar (i : Nat) : Env → M Vl := fun ρ => match ρ[i]? with
  | some (some x) => pur x
  | _ => stuck
def eC (d : D) : Env → M Vl := fun _ => pur (.d d)
section
variable {X : Cx} {a b c : Expr} {pos : Pos} {f g h : Env → M Vl}
theorem me_var (i : Nat) {x : Str} {pos : Pos} (hN : X.N[i]? = some x := by rfl) (hv : Vis X.env.scope x := by first | exact Or.inl rfl | exact Or.inr (Or.inl rfl) | exact Or.inr (Or.inr rfl)) (hd : (x == ("__debug__" : Str)) = false := by decide)
    (hcd : (x == ("__classdict__" : Str)) = false := by decide) : ME X Er (.Name x pos) (eVar i) := PE.imp (pe_var hN hv hd hcd) fun σ H Q ⟨F, m, G, S, ρ, w, r, h⟩ => by
  unfold eVar at h
  rcases q : ρ[i]? with _ | _ | x
  · rw [q] at h; exact h.elim
  · rw [q] at h; exact h.elim
  · rw [q] at h
    obtain ⟨v, h1, h2⟩ := r.at_ i x q
    exact ⟨v, h1, res_ok w h2 h⟩
theorem me_c {e : Expr} {v : V} {d : D} (he : PE X e (tC v)) (hr : ∀ K F, Rep K F d v) : ME X Er e (eC d) := PE.imp he fun σ H Q ⟨F, m, G, S, ρ, w, r, h⟩ => res_ok w (hr _ _) h
theorem me_int {i : Int} {j : Nat} {pos : Pos} : ME X Er (.Constant (.int i) j pos) (eC (.int i)) := me_c pe_int fun _ _ => .int i
theorem me_bl {i : Bool} {j : Nat} {pos : Pos} : ME X Er (.Constant (.bool i) j pos) (eC (.bl i)) := me_c pe_bl fun _ _ => .bl i
theorem me_non {j : Nat} {pos : Pos} : ME X Er (.Constant .none j pos) (eC .non) := me_c pe_non fun _ _ => .non
theorem me_str {i : Str} {j : Nat} {pos : Pos} : ME X Er (.Constant (.str i) j pos) (eC (.str i)) := me_c pe_str fun _ _ => .str i
/-- a module's constant -/
theorem me_glob {x : Str} {v : V} {d : D} {u : Value} {pos : Pos} (hg : Gl X x) (hm : X.mg x = some u) (r : RelV v u) (hr : ∀ F, Rep X.K F d v) (hd : (x == ("__debug__" : Str)) = false := by decide) : ME X Er (.Name x pos) (eC d) :=
  PE.imp (pe_glob hg hm r hd) fun σ H Q ⟨F, m, G, S, ρ, w, r, h⟩ => res_ok w (hr _) h

theorem me_gint {x : Str} {i : Int} {t : Tok} {pos : Pos} (hg : Gl X x) (hm : X.mg x = some (.int i t)) (hd : (x == ("__debug__" : Str)) = false := by decide) : ME X Er (.Name x pos) (eC (.int i)) := me_glob (v := .int i) hg hm ⟨t, rfl⟩ (fun _ => .int i) hd
theorem me_gstr {x i : Str} {t : Tok} {pos : Pos} (hg : Gl X x) (hm : X.mg x = some (.str i t)) (hd : (x == ("__debug__" : Str)) = false := by decide) : ME X Er (.Name x pos) (eC (.str i)) := me_glob (v := .str i) hg hm ⟨t, rfl⟩ (fun _ => .str i) hd

/-! ### two operands -/
def R2M (K : Frag) (Er : ErT) (g : Vl → Vl → M Vl) : R2 := fun x y H Q => ∃ F m G S a b, Wd K F m G S H ∧ RepV K F m a x ∧ RepV K F m b y ∧ res K Er (rV K) F m G (g a b S) Q
def OpM (X : Cx) (Er : ErT) (f : Value → Value → Sem Value) (g : Vl → Vl → M Vl) : Prop := OpR X f (R2M X.K Er g)
def eOp (g : Vl → Vl → M Vl) (f h : Env → M Vl) : Env → M Vl := fun ρ => bnd (f ρ) fun x => bnd (h ρ) fun y => g x y
theorem tOp_of {g : Vl → Vl → M Vl} {K : Frag} {σ : L2.St} {H : Hp} {Q : VK} (hw : tE K Er (eOp g f h) σ H Q) : tOp (R2M K Er g) (tE K Er f) (tE K Er h) σ H Q := by
  obtain ⟨F, m, G, S, ρ, w, r, q⟩ := hw
  refine rd_mono (rd_bnd (A := rV K) w r q) fun x H1 ⟨F1, m1, S1, a1, e1, w1, r1, ra, q1⟩ => ?_
  refine rd_mono (rd_bnd (A := rV K) w1 r1 q1) fun y H2 ⟨F2, m2, S2, a2, e2, w2, r2, rb, q2⟩ => ?_
  exact ⟨F2, m2, G, S2, a1, a2, w2, ra.mono e2, rb, q2⟩
theorem me_op {op : Operator} {g : Vl → Vl → M Vl} (ho : OpM X Er (binaryOp op) g) (ha : ME X Er a f) (hb : ME X Er b h) : ME X Er (.BinOp a op b pos) (eOp g f h) := PE.imp (pe_op ho ha hb) fun _ _ _ => tOp_of
theorem me_cmp {op : CmpOp} {g : Vl → Vl → M Vl} (ho : OpM X Er (compareOp op) g) (ha : ME X Er a f) (hb : ME X Er b h) (hm : behindInMarks op b = false := by first | exact nomark _ | rfl) : ME X Er (.Compare a [op] [b] pos) (eOp g f h) := PE.imp (pe_cmpR ho ha hb hm) fun _ _ _ => tOp_of
def asB (x : Vl) : M Bool := match x with
  | .d (.bl b) => pur b
  | _ => stuck
def eTest (f : Env → M Vl) : Env → M Bool := fun ρ => bnd (f ρ) asB
theorem asB_of {K : Frag} {F G H : Hp} {m : List Addr} {S : Sto} {x : Vl} {v : V} {Q : Bool → Hp → Prop} (w : Wd K F m G S H) (r : RepV K F m x v) (h : res K Er rB F m G (asB x S) Q) : ∃ k, v = .bl k ∧ Q k H := by
  unfold asB at h
  split at h
  · cases r
    exact ⟨_, rfl, res_ok w rfl h⟩
  · exact h.elim
theorem tTest_of {K : Frag} {σ : L2.St} {H : Hp} {Q : Bool → Hp → Prop} (hw : tT K Er (eTest f) σ H Q) : tE K Er f σ H fun x H' => ∃ k, x = .bl k ∧ Q k H' := by
  obtain ⟨F, m, G, S, ρ, w, r, q⟩ := hw
  refine rd_mono (rd_bnd (A := rV K) w r q) fun x H1 ⟨F1, m1, S1, a1, e1, w1, r1, ra, q1⟩ => ?_
  exact asB_of w1 ra q1
theorem tE_mono {K : Frag} {σ : L2.St} {H : Hp} {f : Env → M Vl} {Q Q' : VK} (h : tE K Er f σ H Q) (i : ∀ b H', Q b H' → Q' b H') : tE K Er f σ H Q' := rd_mono h i
theorem mt_cmp {op : CmpOp} {g : Vl → Vl → M Vl} (ho : OpM X Er (compareOp op) g) (ha : ME X Er a f) (hb : ME X Er b h) (hm : behindInMarks op b = false := by first | exact nomark _ | rfl) : MT X Er (.Compare a [op] [b] pos) (eTest (eOp g f h)) :=
  PT.imp (pt_cmpR ho ha hb hm) fun _ _ _ hw => tOp_of (tTest_of hw)
theorem mt_val {e : Expr} (he : ME X Er e f) (hp : ∀ whole, isTrue e X.env whole = (do let v ← whole; standAt e.pos; holding [v] (truthy v)) := by intro _; rfl) : MT X Er e (eTest f) := PT.imp (pt_val he hp) fun _ _ _ hw => tTest_of hw
/-- a < b < c -/
def eChain (g g' : Vl → Vl → M Vl) (fa fb fc : Env → M Vl) : Env → M Vl := fun ρ => bnd (fa ρ) fun x => bnd (fb ρ) fun y => bnd (g x y) fun z => bnd (asB z) fun k => match k with
  | true => bnd (fc ρ) fun z => g' y z
  | false => pur (.d (.bl false))
theorem bnd_ok {α β : Type} {p : M α} {q : α → M β} {S S' : Sto} {a : α} (h : p S = .ok a S') : bnd p q S = q a S' := by unfold bnd; rw [h]
theorem bnd_bnd {α β γ : Type} (p : M α) (q : α → M β) (r : β → M γ) : bnd (bnd p q) r = bnd p fun a => bnd (q a) r := by
  funext S
  unfold bnd
  cases p S <;> rfl
theorem bnd_ret {α β : Type} (a : α) (q : α → M β) : bnd (pur a) q = q a := rfl
/-- the reading of p and then q, with p no function of the slots -/
theorem res_bnd {α β γ δ : Type} {K : Frag} {A : Hp → List Addr → α → β → Prop} {B : Hp → List Addr → γ → δ → Prop} {F G : Hp} {m : List Addr} {S : Sto} {p : M α} {q : α → M γ} {Q : δ → Hp → Prop} (h : res K Er B F m G (bnd p q S) Q) :
    res K Er A F m G (p S) fun b H' => ∃ F' m' S' a, Ext F F' m m' ∧ Wd K F' m' G S' H' ∧ A F' m' a b ∧ res K Er B F' m' G (q a S') Q := by
  unfold bnd at h
  cases e : p S with
  | ok a S' =>
    rw [e] at h
    exact fun F' m' H' b x w r => ⟨F', m', S', a, x, w, r, res_ext x h⟩
  | err x S' => rw [e] at h; exact h
  | no => rw [e] at h; exact h
theorem tChain_of {g g' : Vl → Vl → M Vl} {fa fb fc : Env → M Vl} {K : Frag} {σ : L2.St} {H : Hp} {Q : VK} (hw : tE K Er (eChain g g' fa fb fc) σ H Q) : tChain (R2M K Er g) (R2M K Er g') (tE K Er fa) (tE K Er fb) (tE K Er fc) σ H Q := by
  obtain ⟨F, m, G, S, ρ, w, r, q⟩ := hw
  refine rd_mono (rd_bnd (A := rV K) w r q) fun x H1 ⟨F1, m1, S1, a1, e1, w1, r1, ra, q1⟩ => ?_
  refine rd_mono (rd_bnd (A := rV K) w1 r1 q1) fun y H2 ⟨F2, m2, S2, a2, e2, w2, r2, rb, q2⟩ => ?_
  refine ⟨F2, m2, G, S2, a1, a2, w2, ra.mono e2, rb, ?_⟩
  have z := res_bnd (A := rV K) q2
  cases e : g a1 a2 S2 with
  | err => rw [e] at z; exact z
  | no => rw [e] at z; exact z
  | ok t S3 =>
    rw [e] at z
    intro F3 m3 H3 v e3 w3 r3
    obtain ⟨F4, m4, S4, t', e4, w4, r4, q4⟩ := z F3 m3 H3 v e3 w3 r3
    have z4 := res_bnd (A := rB) q4
    unfold asB at z4
    split at z4
    · rename_i k
      cases r4
      refine ⟨k, rfl, ?_⟩
      obtain ⟨F5, m5, S5, k', e5, w5, r5, q5⟩ := z4 F4 m4 H3 k (Ext.refl _ _) w4 rfl
      subst r5
      cases k' with
      | true =>
        rw [if_pos rfl]
        refine rd_mono (rd_bnd (A := rV K) (f := fc) (ρ := ρ) w5 (r2.mono (e4.trans e5)) q5) fun zz H6 ⟨F6, m6, S6, a6, e6, w6, r6, rc, q6⟩ => ?_
        exact ⟨F6, m6, G, S6, a2, a6, w6, rb.mono (e4.trans (e5.trans e6)), rc, q6⟩
      | false =>
        rw [if_neg Bool.false_ne_true]
        exact res_ok w5 (.bl false) q5
    · exact z4.elim
theorem me_chain {op op' : CmpOp} {g g' : Vl → Vl → M Vl} {fa fb fc : Env → M Vl} (ho : OpM X Er (compareOp op) g) (ho' : OpM X Er (compareOp op') g') (ha : ME X Er a fa) (hb : ME X Er b fb) (hc : ME X Er c fc) (hl : lastMarks [op, op'] [b, c] = false := by rfl) :
    ME X Er (.Compare a [op, op'] [b, c] pos) (eChain g g' fa fb fc) := PE.imp (pe_chain ho ho' ha hb hc hl) fun _ _ _ => tChain_of
theorem mt_chain {op op' : CmpOp} {g g' : Vl → Vl → M Vl} {fa fb fc : Env → M Vl} (ho : OpM X Er (compareOp op) g) (ho' : OpM X Er (compareOp op') g') (ha : ME X Er a fa) (hb : ME X Er b fb) (hc : ME X Er c fc) (hl : lastMarks [op, op'] [b, c] = false := by rfl) :
    MT X Er (.Compare a [op, op'] [b, c] pos) (eTest (eChain g g' fa fb fc)) := PT.imp (pt_chain ho ho' ha hb hc hl) fun _ _ _ hw => tChain_of (tTest_of hw)

/-! ### one operand -/
def RUM (K : Frag) (Er : ErT) (g : Vl → M Vl) : V → Hp → VK → Prop := fun x H Q => ∃ F m G S a, Wd K F m G S H ∧ RepV K F m a x ∧ res K Er (rV K) F m G (g a S) Q
def eUn (g : Vl → M Vl) (f : Env → M Vl) : Env → M Vl := fun ρ => bnd (f ρ) g
theorem tUn_of {g : Vl → M Vl} {K : Frag} {σ : L2.St} {H : Hp} {Q : VK} (hw : tE K Er (eUn g f) σ H Q) : tUn (RUM K Er g) (tE K Er f) σ H Q := by
  obtain ⟨F, m, G, S, ρ, w, r, q⟩ := hw
  refine rd_mono (rd_bnd (A := rV K) w r q) fun x H1 ⟨F1, m1, S1, a1, e1, w1, r1, ra, q1⟩ => ?_
  exact ⟨F1, m1, G, S1, a1, w1, ra, q1⟩
theorem me_un {op : UnaryOp} {g : Vl → M Vl} (ho : UnR X (unaryOp op) (RUM X.K Er g)) (ha : ME X Er a f) : ME X Er (.UnaryOp op a pos) (eUn g f) := PE.imp (pe_un ho ha) fun _ _ _ => tUn_of

/-! ### and, or, not -/
/-- as values, all but the last a bool -/
def eAnd (f h : Env → M Vl) : Env → M Vl := fun ρ => bnd (f ρ) fun x => bnd (asB x) fun k => match k with
  | true => h ρ
  | false => pur (.d (.bl false))
def eOr (f h : Env → M Vl) : Env → M Vl := fun ρ => bnd (f ρ) fun x => bnd (asB x) fun k => match k with
  | true => pur (.d (.bl true))
  | false => h ρ
def eNot (f : Env → M Vl) : Env → M Vl := fun ρ => bnd (f ρ) fun x => bnd (asB x) fun k => pur (.d (.bl (!k)))
theorem asB_bnd {α β : Type} {B : Hp → List Addr → α → β → Prop} {K : Frag} {F G H : Hp} {m : List Addr} {S : Sto} {x : Vl} {v : V} {q : Bool → M α} {Q : β → Hp → Prop} (w : Wd K F m G S H) (r : RepV K F m x v) (h : res K Er B F m G (bnd (asB x) q S) Q) :
    ∃ k, v = .bl k ∧ res K Er B F m G (q k S) Q := by
  unfold asB at h
  split at h
  · cases r
    exact ⟨_, rfl, h⟩
  · exact h.elim
theorem me_one {op : PySem.BoolOp} (ha : ME X Er a f) : ME X Er (.BoolOp op [a] pos) f := pe_one ha
theorem me_and {rest : List Expr} (ha : ME X Er a f) (hb : ME X Er (.BoolOp .And (b :: rest) pos) h) : ME X Er (.BoolOp .And (a :: b :: rest) pos) (eAnd f h) := PE.imp (pe_and ha hb) fun σ H Q ⟨F, m, G, S, ρ, w, r, q⟩ => by
  refine rd_mono (rd_bnd (A := rV X.K) w r q) fun x H1 ⟨F1, m1, S1, a1, e1, w1, r1, ra, q1⟩ => ?_
  obtain ⟨k, rfl, q2⟩ := asB_bnd w1 ra q1
  refine ⟨k, rfl, ?_⟩
  cases k with
  | true => rw [if_pos rfl]; exact ⟨F1, m1, G, S1, ρ, w1, r1, q2⟩
  | false => rw [if_neg Bool.false_ne_true]; exact res_ok w1 (.bl false) q2
theorem me_or {rest : List Expr} (ha : ME X Er a f) (hb : ME X Er (.BoolOp .Or (b :: rest) pos) h) : ME X Er (.BoolOp .Or (a :: b :: rest) pos) (eOr f h) := PE.imp (pe_or ha hb) fun σ H Q ⟨F, m, G, S, ρ, w, r, q⟩ => by
  refine rd_mono (rd_bnd (A := rV X.K) w r q) fun x H1 ⟨F1, m1, S1, a1, e1, w1, r1, ra, q1⟩ => ?_
  obtain ⟨k, rfl, q2⟩ := asB_bnd w1 ra q1
  refine ⟨k, rfl, ?_⟩
  cases k with
  | true => rw [if_pos rfl]; exact res_ok w1 (.bl true) q2
  | false => rw [if_neg Bool.false_ne_true]; exact ⟨F1, m1, G, S1, ρ, w1, r1, q2⟩
theorem me_not (ha : ME X Er a f) : ME X Er (.UnaryOp .Not a pos) (eNot f) := PE.imp (pe_not ha) fun σ H Q ⟨F, m, G, S, ρ, w, r, q⟩ => by
  refine rd_mono (rd_bnd (A := rV X.K) w r q) fun x H1 ⟨F1, m1, S1, a1, e1, w1, r1, ra, q1⟩ => ?_
  obtain ⟨k, rfl, q2⟩ := asB_bnd w1 ra q1
  exact ⟨k, rfl, res_ok w1 (.bl _) q2⟩
/-- as tests -/
def bAnd (f h : Env → M Bool) : Env → M Bool := fun ρ => bnd (f ρ) fun k => match k with
  | true => h ρ
  | false => pur false
def bOr (f h : Env → M Bool) : Env → M Bool := fun ρ => bnd (f ρ) fun k => match k with
  | true => pur true
  | false => h ρ
def bNot (f : Env → M Bool) : Env → M Bool := fun ρ => bnd (f ρ) fun k => pur (!k)
abbrev MW (X : Cx) (Er : ErT) (e : Expr) (f : Env → M Bool) : Prop := PW X e (tT X.K Er f)
theorem PW.imp {X : Cx} {e : Expr} {t t' : TT} (h : PW X e t) (i : ∀ σ H Q, t' σ H Q → t σ H Q) : PW X e t' := ⟨fun wh pins s σ H Q I q => h.run wh pins s σ H Q I (i σ H Q q)⟩
variable {p q : Env → M Bool}
theorem mw_and1 (ha : MT X Er a p) : MW X Er (.BoolOp .And [a] pos) p := pw_and1 ha
theorem mw_or1 (ha : MT X Er a p) : MW X Er (.BoolOp .Or [a] pos) p := pw_or1 ha
theorem mw_and {rest : List Expr} (ha : MT X Er a p) (hb : MW X Er (.BoolOp .And (b :: rest) pos) q) : MW X Er (.BoolOp .And (a :: b :: rest) pos) (bAnd p q) := PW.imp (pw_and ha hb) fun σ H Q ⟨F, m, G, S, ρ, w, r, z⟩ => by
  refine rd_mono (rd_bnd (A := rB) w r z) fun x H1 ⟨F1, m1, S1, k, e1, w1, r1, ra, q1⟩ => ?_
  subst ra
  cases k with
  | true => rw [if_pos rfl]; exact ⟨F1, m1, G, S1, ρ, w1, r1, q1⟩
  | false => rw [if_neg Bool.false_ne_true]; exact res_ok w1 rfl q1
theorem mw_or {rest : List Expr} (ha : MT X Er a p) (hb : MW X Er (.BoolOp .Or (b :: rest) pos) q) : MW X Er (.BoolOp .Or (a :: b :: rest) pos) (bOr p q) := PW.imp (pw_or ha hb) fun σ H Q ⟨F, m, G, S, ρ, w, r, z⟩ => by
  refine rd_mono (rd_bnd (A := rB) w r z) fun x H1 ⟨F1, m1, S1, k, e1, w1, r1, ra, q1⟩ => ?_
  subst ra
  cases k with
  | true => rw [if_pos rfl]; exact res_ok w1 rfl q1
  | false => rw [if_neg Bool.false_ne_true]; exact ⟨F1, m1, G, S1, ρ, w1, r1, q1⟩
theorem mt_w {e : Expr} (h : MW X Er e p) : MT X Er e p := PW.pt h
theorem mt_not (ha : MT X Er a p) : MT X Er (.UnaryOp .Not a pos) (bNot p) := PT.imp (pt_not ha) fun σ H Q ⟨F, m, G, S, ρ, w, r, z⟩ => by
  refine rd_mono (rd_bnd (A := rB) w r z) fun x H1 ⟨F1, m1, S1, k, e1, w1, r1, ra, q1⟩ => ?_
  subst ra
  exact res_ok w1 rfl q1
def eIf (p : Env → M Bool) (f h : Env → M Vl) : Env → M Vl := fun ρ => bnd (p ρ) fun k => match k with
  | true => f ρ
  | false => h ρ
theorem me_if (hc : MT X Er c p) (ha : ME X Er a f) (hb : ME X Er b h) : ME X Er (.IfExp c a b pos) (eIf p f h) := PE.imp (pe_ifExp hc ha hb) fun σ H Q ⟨F, m, G, S, ρ, w, r, z⟩ => by
  refine rd_mono (rd_bnd (A := rB) w r z) fun x H1 ⟨F1, m1, S1, k, e1, w1, r1, ra, q1⟩ => ?_
  subst ra
  cases k with
  | true => rw [if_pos rfl]; exact ⟨F1, m1, G, S1, ρ, w1, r1, q1⟩
  | false => rw [if_neg Bool.false_ne_true]; exact ⟨F1, m1, G, S1, ρ, w1, r1, q1⟩

/-! ### argument lists, displays, calls -/
def aNil : Env → M (List Vl) := fun _ => pur []
def aCons (f : Env → M Vl) (g : Env → M (List Vl)) : Env → M (List Vl) := fun ρ => bnd (f ρ) fun x => bnd (g ρ) fun xs => pur (x :: xs)
variable {es : List Expr} {fs : Env → M (List Vl)} {e : Expr}
theorem ma_nil : MA X Er [] aNil := PA.imp pa_nil fun σ H Q ⟨F, m, G, S, ρ, w, r, z⟩ => res_ok w .nil z
theorem ma_cons (ha : ME X Er e f) (hr : MA X Er es fs) (hs : starEach (e :: es) X.env = (false, eval e X.env) :: starEach es X.env := by rfl) : MA X Er (e :: es) (aCons f fs) := PA.imp (pa_cons ha hr hs) fun σ H Q ⟨F, m, G, S, ρ, w, r, z⟩ => by
  refine rd_mono (rd_bnd (A := rV X.K) w r z) fun x H1 ⟨F1, m1, S1, a1, e1, w1, r1, ra, q1⟩ => ?_
  refine rd_mono (rd_bnd (A := rVs X.K) w1 r1 q1) fun xs H2 ⟨F2, m2, S2, a2, e2, w2, r2, rb, q2⟩ => ?_
  exact res_ok w2 (.cons (ra.mono e2) rb) q2
/-- all of them data -/
def asDs : List Vl → Option (List D)
  | [] => some []
  | .d x :: r => match asDs r with
    | some ds => some (x :: ds)
    | none => none
  | .c _ :: _ => none
theorem asDs_rep {K : Frag} {F : Hp} {m : List Addr} : ∀ {xs : List Vl} {vs : List V} {ds : List D}, RepVs K F m xs vs → asDs xs = some ds → Reps K F ds vs
  | _, _, _, .nil, h => by cases h; exact .nil
  | .d x :: xs, _, ds, .cons r t, h => by
    unfold asDs at h
    cases q : asDs xs with
    | none => rw [q] at h; cases h
    | some es => rw [q] at h; cases h; exact .cons r (asDs_rep t q)
  | .c n :: xs, _, ds, .cons r t, h => by cases h
def dTup (xs : List Vl) : M Vl := match asDs xs with
  | some ds => if ds.length ≤ 100000 then pur (.d (.tup ds)) else stuck
  | none => stuck
def dLst (xs : List Vl) : M Vl := match asDs xs with
  | some ds => if ds.length ≤ 100000 then pur (.d (.lst ds)) else stuck
  | none => stuck
def dCell (xs : List Vl) : M Vl := match asDs xs with
  | some ds => if ds.length ≤ 100000 then fun S => .ok (.c S.length) (S ++ [.lst ds]) else stuck
  | none => stuck
def eTup (fs : Env → M (List Vl)) : Env → M Vl := fun ρ => bnd (fs ρ) dTup
def eLst (fs : Env → M (List Vl)) : Env → M Vl := fun ρ => bnd (fs ρ) dLst
def eCell (fs : Env → M (List Vl)) : Env → M Vl := fun ρ => bnd (fs ρ) dCell
theorem sz5 {n : Nat} (h : n ≤ 100000) : n ≤ sizeLine := Nat.le_trans h (by decide)
theorem sz5' {n : Nat} (h : n < 100000) : n < sizeLine := Nat.lt_of_lt_of_le h (by decide)
theorem me_tup {k : Nat} (ha : MA X Er es fs) : ME X Er (.Tuple es k pos) (eTup fs) := PE.imp (pe_tup ha) fun σ H Q ⟨F, m, G, S, ρ, w, r, z⟩ => by
  refine rd_mono (rd_bnd (A := rVs X.K) w r z) fun vs H1 ⟨F1, m1, S1, xs, e1, w1, r1, ra, q1⟩ => ?_
  unfold dTup at q1
  cases q : asDs xs with
  | none => rw [q] at q1; exact q1.elim
  | some ds =>
    rw [q] at q1
    have rs := asDs_rep ra q
    by_cases hl : ds.length ≤ 100000
    · simp only [if_pos hl] at q1
      refine ⟨by rw [← rs.length]; exact sz5 hl, fun p hp => ?_⟩
      exact q1 _ m1 _ _ (Ext.lay (w1.fresh hp)) (w1.lay hp _) (.tup (.inl (.inl upd_same)) (rs.mono (same_upd (w1.fresh hp))))
    · simp only [if_neg hl] at q1; exact q1.elim
theorem me_lst (ha : MA X Er es fs) : ME X Er (.List es pos) (eLst fs) := PE.imp (pe_lst ha) fun σ H Q ⟨F, m, G, S, ρ, w, r, z⟩ => by
  refine rd_mono (rd_bnd (A := rVs X.K) w r z) fun vs H1 ⟨F1, m1, S1, xs, e1, w1, r1, ra, q1⟩ => ?_
  unfold dLst at q1
  cases q : asDs xs with
  | none => rw [q] at q1; exact q1.elim
  | some ds =>
    rw [q] at q1
    have rs := asDs_rep ra q
    by_cases hl : ds.length ≤ 100000
    · simp only [if_pos hl] at q1
      refine ⟨by rw [← rs.length]; exact sz5 hl, fun p hp => ?_⟩
      exact q1 _ m1 _ _ (Ext.lay (w1.fresh hp)) (w1.lay hp _) (.lst upd_same (rs.mono (same_upd (w1.fresh hp))))
    · simp only [if_neg hl] at q1; exact q1.elim
theorem me_cell (ha : MA X Er es fs) : ME X Er (.List es pos) (eCell fs) := PE.imp (pe_lst ha) fun σ H Q ⟨F, m, G, S, ρ, w, r, z⟩ => by
  refine rd_mono (rd_bnd (A := rVs X.K) w r z) fun vs H1 ⟨F1, m1, S1, xs, e1, w1, r1, ra, q1⟩ => ?_
  unfold dCell at q1
  cases q : asDs xs with
  | none => rw [q] at q1; exact q1.elim
  | some ds =>
    rw [q] at q1
    have rs := asDs_rep ra q
    by_cases hl : ds.length ≤ 100000
    · simp only [if_pos hl] at q1
      refine ⟨by rw [← rs.length]; exact sz5 hl, fun p hp => ?_⟩
      refine q1 _ _ _ _ (Ext.cell p) (w1.cell hp (.lst rs)) ⟨p, ?_, rfl⟩
      rw [← w1.len]
      simp
    · simp only [if_neg hl] at q1; exact q1.elim
end

/-! ### built-ins by name -/
def RCM (K : Frag) (Er : ErT) (g : List Vl → M Vl) : List V → Hp → VK → Prop := fun vs H Q => ∃ F m G S xs, Wd K F m G S H ∧ RepVs K F m xs vs ∧ res K Er (rV K) F m G (g xs S) Q
abbrev CallM (X : Cx) (Er : ErT) (f : Value) (g : List Vl → M Vl) : Prop := CallR X f (RCM X.K Er g)
def eCB (g : List Vl → M Vl) (fs : Env → M (List Vl)) : Env → M Vl := fun ρ => bnd (fs ρ) g
theorem tCB_of {g : List Vl → M Vl} {fs : Env → M (List Vl)} {K : Frag} {σ : L2.St} {H : Hp} {Q : VK} (hw : tE K Er (eCB g fs) σ H Q) : tCB (RCM K Er g) (tA K Er fs) σ H Q := by
  obtain ⟨F, m, G, S, ρ, w, r, z⟩ := hw
  refine rd_mono (rd_bnd (A := rVs K) w r z) fun vs H1 ⟨F1, m1, S1, xs, e1, w1, r1, ra, q1⟩ => ?_
  exact ⟨F1, m1, G, S1, xs, w1, ra, q1⟩
section
variable {X : Cx} {x : Str} {p pos : Pos} {e : Expr} {es : List Expr} {fs : Env → M (List Vl)} {id T : String} {g : List Vl → M Vl}
theorem me_callB (hc : CallM X Er (.builtin id) g) (hg : Gl X x) (hm : X.mg x = none) (hv : bootBuiltins x = some (.builtin id)) (ha : MA X Er (e :: es) fs) (hn : x ≠ "__name__" := by decide) (hdb : (x == ("__debug__" : Str)) = false := by decide)
    (he : Args1 X e es := by rfl) (hpl : NoStar X es pos := by rfl) : ME X Er (.Call (.Name x p) (e :: es) [] pos) (eCB g fs) :=
  PE.imp (pe_callB hc hg hm hv ha hn hdb he hpl) fun _ _ _ => tCB_of
theorem me_callTy (hc : CallM X Er (.type T) g) (hg : Gl X x) (hm : X.mg x = none) (hv : bootBuiltins x = some (.type T)) (ha : MA X Er (e :: es) fs) (hn : x ≠ "__name__" := by decide) (hdb : (x == ("__debug__" : Str)) = false := by decide)
    (he : Args1 X e es := by rfl) (hpl : NoStar X es pos := by rfl) : ME X Er (.Call (.Name x p) (e :: es) [] pos) (eCB g fs) :=
  PE.imp (pe_callTy hc hg hm hv ha hn hdb he hpl) fun _ _ _ => tCB_of
end

/-! ### own defs -/
/-- a def's promise by its meaning -/
def spM (K : Frag) (n : Nat) (φ : List Vl → M Vl) : Sp := fun vs H Q E => vs.length = n ∧ ∃ F m G S xs, Wd K F m G S H ∧ RepVs K F m xs vs ∧ res K (erE K E) (rV K) F m G (φ xs S) Q
/-- what may leave the context -/
structure ErOk (X : Cx) (Er : ErT) (E : XK) : Prop where
  tk : Takes X fun c d _ H => E c d H
  imp : ∀ (x : Exn) (F H : Hp), Er x F H → erE X.K E x F H
theorem ErOk.pass {X : Cx} {Er : ErT} {E : XK} (h : ErOk X Er E) : Passes (CX X.prog X.w) X E := passes_call h.tk fun _ _ _ _ q => q
theorem erOk0 {X : Cx} : ErOk X er0 fun _ _ _ => False := ⟨fun u s' ⟨_, _, _, _, _, _, _, _, _, _, _, _, _, _, _, _, w⟩ => w.elim, fun _ _ _ h => h.elim⟩
theorem res_imp {α β : Type} {K : Frag} {Er Er' : ErT} {A : Hp → List Addr → α → β → Prop} {F G : Hp} {m : List Addr} {r : R α} {Q : β → Hp → Prop} (i : ∀ x F H, Er x F H → Er' x F H) (h : res K Er A F m G r Q) : res K Er' A F m G r Q := by
  cases r with
  | ok a S' => exact h
  | err x S' => exact fun F' m' H' e w => i _ _ _ (h F' m' H' e w)
  | no => exact h
/-- nothing may be raised here -/
def noE {α : Type} (p : M α) : M α := fun S => match p S with
  | .ok a S' => .ok a S'
  | _ => .no
theorem noE_pur {α : Type} (a : α) : noE (pur a) = pur a := rfl
theorem res_noE {α β : Type} {K : Frag} {Er Er' : ErT} {A : Hp → List Addr → α → β → Prop} {F G : Hp} {m : List Addr} {p : M α} {S : Sto} {Q : β → Hp → Prop} (h : res K Er A F m G (noE p S) Q) : res K Er' A F m G (p S) Q := by
  unfold noE at h
  cases q : p S with
  | ok a S' => rw [q] at h; exact h
  | err x S' => rw [q] at h; exact h.elim
  | no => rw [q] at h; exact h.elim
def eCall (φ : List Vl → M Vl) (fs : Env → M (List Vl)) : Env → M Vl := fun ρ => bnd (fs ρ) φ
theorem tCall_of {n : Nat} {φ : List Vl → M Vl} {fs : Env → M (List Vl)} {K : Frag} {E : XK} {σ : L2.St} {H : Hp} {Q : VK} (hi : ∀ (x : Exn) (F H : Hp), Er x F H → erE K E x F H) (hl : ∀ ρ S xs S', fs ρ S = .ok xs S' → xs.length = n) (hw : tE K Er (eCall φ fs) σ H Q) : tCallG n (spM K n φ) E (tA K Er fs) σ H Q := by
  obtain ⟨F, m, G, S, ρ, w, r, z⟩ := hw
  unfold tCallG
  refine ⟨F, m, G, S, ρ, w, r, ?_⟩
  unfold eCall bnd at z
  cases q : fs ρ S with
  | err => rw [q] at z; exact z
  | no => rw [q] at z; exact z
  | ok xs S1 =>
    rw [q] at z
    intro F1 m1 H1 vs e1 w1 ra
    have l : vs.length = n := by rw [← ra.length]; exact hl ρ S xs S1 q
    exact ⟨l, l, F1, m1, G, S1, xs, w1, ra, res_imp hi (res_ext e1 z)⟩
/-- a list of arguments of a known length -/
structure Ln (fs : Env → M (List Vl)) (n : Nat) : Prop where
  ln : ∀ ρ S xs S', fs ρ S = .ok xs S' → xs.length = n
theorem ln_nil : Ln aNil 0 := ⟨fun ρ S xs S' h => by cases h; rfl⟩
theorem ln_cons {f : Env → M Vl} {fs : Env → M (List Vl)} {n : Nat} (h : Ln fs n) : Ln (aCons f fs) (n + 1) := ⟨fun ρ S xs S' q => by
  unfold aCons bnd at q
  cases e : f ρ S with
  | err => rw [e] at q; cases q
  | no => rw [e] at q; cases q
  | ok x S1 =>
    rw [e] at q
    simp only [] at q
    cases e2 : fs ρ S1 with
    | err => rw [e2] at q; cases q
    | no => rw [e2] at q; cases q
    | ok ys S2 =>
      rw [e2] at q
      cases q
      exact congrArg (· + 1) (h.ln ρ S1 ys _ e2)⟩
section
variable {X : Cx} {x : Str} {p pos : Pos} {e : Expr} {es : List Expr} {fs : Env → M (List Vl)} {k n : Nat} {f : Addr} {φ : List Vl → M Vl}
theorem me_call (G : FnG X.prog X.w X.K X.mg X.base (CX X.prog X.w) k n f (spM X.K n φ)) (eo : ErOk X Er E) (hr : Rm k X.A) (hg : Gl X x) (hm : X.mg x = some (.ref f)) (hk : PySem.W.keepIn X.K (.ref f) = true) (ha : MA X Er (e :: es) fs) (hl : Ln fs n)
    (hdb : (x == ("__debug__" : Str)) = false := by decide) (he : Args1 X e es := by rfl) (hpl : NoStar X es pos := by rfl) :
    ME X Er (.Call (.Name x p) (e :: es) [] pos) (eCall φ fs) := PE.imp (pg_call (E := E) G hr hg hm hk eo.pass ha hdb he hpl) fun _ _ _ => tCall_of eo.imp hl.ln
end
end Dz

/-! Dz3: statements, loops, comprehensions, a def's body. -/
namespace Dz
open PySem PySem.Spec PyProof.Rows L2
section
variable {X : Cx} {st : Stmt} {rest : List Stmt} {s t : Env → M Out} {e : Expr} {f : Env → M Vl} {p : Env → M Bool} {pos : Pos}
def sNext : Env → M Out := fun ρ => pur (.nx ρ)
def sSeq (s t : Env → M Out) : Env → M Out := fun ρ => bnd (s ρ) fun o => match o with
  | .nx ρ' => t ρ'
  | o => pur o
theorem ms_nil : MSs X Er [] sNext := PSs.imp pss_nil fun D σ H ⟨F, m, G, S, ρ, w, r, z⟩ => z F m H (Ext.refl _ _) w σ r
theorem outS_mono {K : Frag} {D D' : Ends} {F : Hp} {m : List Addr} {H : Hp} {o : Out} (h : outS K D F m H o) (hn : ∀ σ, D.nx σ H → D'.nx σ H) (hr : ∀ v, D.rt v H → D'.rt v H) (hb : ∀ σ, D.bk σ H → D'.bk σ H) (hc : ∀ σ, D.ct σ H → D'.ct σ H) : outS K D' F m H o := by
  cases o with
  | nx ρ => exact fun σ r => hn σ (h σ r)
  | rt x => exact fun v r => hr v (h v r)
  | bk ρ => exact fun σ r => hb σ (h σ r)
  | ct ρ => exact fun σ r => hc σ (h σ r)
theorem ms_cons (h1 : MS X Er st s) (h2 : MSs X Er rest t) : MSs X Er (st :: rest) (sSeq s t) := PSs.imp (pss_cons h1 h2) fun D σ H ⟨F, m, G, S, ρ, w, r, z⟩ => by
  refine ⟨F, m, G, S, ρ, w, r, ?_⟩
  unfold sSeq bnd at z
  cases q : s ρ S with
  | err => rw [q] at z; exact z
  | no => rw [q] at z; exact z
  | ok o S1 =>
    rw [q] at z
    intro F1 m1 H1 e1 w1
    cases o with
    | nx ρ1 => exact fun σ1 r1 => ⟨F1, m1, G, S1, ρ1, w1, r1, resS_ext e1 z⟩
    | rt x => exact fun v rv => z F1 m1 H1 e1 w1 v rv
    | bk ρ1 => exact fun v rv => z F1 m1 H1 e1 w1 v rv
    | ct ρ1 => exact fun v rv => z F1 m1 H1 e1 w1 v rv
theorem ms_one (h1 : MS X Er st s) : MSs X Er [st] s := pss_one h1
def sRet (f : Env → M Vl) : Env → M Out := fun ρ => bnd (f ρ) fun x => pur (.rt x)
theorem ms_ret (h : ME X Er e f) : MS X Er (.Return (some e) pos) (sRet f) := PS.imp (ps_ret h) fun D σ H ⟨F, m, G, S, ρ, w, r, z⟩ => by
  refine rd_mono (rd_bndS (A := rV X.K) w r z) fun x H1 ⟨F1, m1, S1, a1, e1, w1, r1, ra, q1⟩ => ?_
  exact q1 F1 m1 H1 (Ext.refl _ _) w1 x ra
def sIf (p : Env → M Bool) (s t : Env → M Out) : Env → M Out := fun ρ => bnd (p ρ) fun k => match k with
  | true => s ρ
  | false => t ρ
theorem ms_if {c : Expr} {a b : List Stmt} (hc : MT X Er c p) (ha : MSs X Er a s) (hb : MSs X Er b t) : MS X Er (.If c a b pos) (sIf p s t) := PS.imp (ps_if hc ha hb) fun D σ H ⟨F, m, G, S, ρ, w, r, z⟩ => by
  refine rd_mono (rd_bndS (A := rB) w r z) fun x H1 ⟨F1, m1, S1, k, e1, w1, r1, ra, q1⟩ => ?_
  subst ra
  cases k with
  | true => rw [if_pos rfl]; exact ⟨F1, m1, G, S1, ρ, w1, r1, q1⟩
  | false => rw [if_neg Bool.false_ne_true]; exact ⟨F1, m1, G, S1, ρ, w1, r1, q1⟩
def sSet (i : Nat) (f : Env → M Vl) : Env → M Out := fun ρ => bnd (f ρ) fun x => pur (.nx (ρ.set i (some x)))
theorem ms_set {i : Nat} {x : Str} {pos' : Pos} (hN : X.N.Nodup) (hi : X.N[i]? = some x) (hx : Loc X.env.scope x) (he : ME X Er e f) (hs : swapsWith e (some (.Name x pos')) pos.line X.env = pure false := by rfl) (hf : X.fn x = true ∨ X.env.scope.names.lookup x = some .local := by first | exact .inl rfl | exact .inr rfl | assumption) :
    MS X Er (.Assign [.Name x pos'] e pos) (sSet i f) := PS.imp (ps_set hN hi hx he hs hf) fun D σ H ⟨F, m, G, S, ρ, w, r, z⟩ => by
  refine rd_mono (rd_bndS (A := rV X.K) w r z) fun v H1 ⟨F1, m1, S1, a1, e1, w1, r1, ra, q1⟩ => ?_
  exact q1 F1 m1 H1 (Ext.refl _ _) w1 _ (r1.set ra i)
def sDrop (f : Env → M Vl) : Env → M Out := fun ρ => bnd (f ρ) fun _ => pur (.nx ρ)
theorem ms_expr (he : ME X Er e f) (hs : swapsWith e none pos.line X.env = pure false := by rfl) : MS X Er (.Expr e pos) (sDrop f) := PS.imp (ps_expr he hs) fun D σ H ⟨F, m, G, S, ρ, w, r, z⟩ => by
  refine rd_mono (rd_bndS (A := rV X.K) w r z) fun v H1 ⟨F1, m1, S1, a1, e1, w1, r1, ra, q1⟩ => ?_
  exact q1 F1 m1 H1 (Ext.refl _ _) w1 _ r1
/-! ### xs[i] = e, xs a cell -/
def setC (o i v : Vl) : M Unit := fun S => match o, i, v with
  | .c n, .d (.int k), .d y => match S[n]? with
    | some (.lst xs) => match ixN xs.length k with
      | some j => .ok () (S.set n (.lst (xs.set j y)))
      | none => .no
    | _ => .no
  | _, _, _ => .no
theorem setC_ok {o i v : Vl} {S S' : Sto} {u : Unit} (h : setC o i v S = .ok u S') : ∃ n k y xs j, o = .c n ∧ i = .d (.int k) ∧ v = .d y ∧ S[n]? = some (.lst xs) ∧ ixN xs.length k = some j ∧ S' = S.set n (.lst (xs.set j y)) := by
  unfold setC at h
  split at h
  · rename_i n k y
    split at h
    · rename_i xs hx
      split at h
      · rename_i j hj
        cases h
        exact ⟨n, k, y, xs, j, rfl, rfl, rfl, hx, hj, rfl⟩
      · cases h
    · cases h
  · cases h
def sPut (fo fi f : Env → M Vl) : Env → M Out := fun ρ => bnd (f ρ) fun v => bnd (fo ρ) fun o => bnd (fi ρ) fun i => bnd (setC o i v) fun _ => pur (.nx ρ)
theorem ms_put {o i : Expr} {fo fi : Env → M Vl} {p' : Pos} (he : ME X Er e f) (ho : ME X Er o fo) (hi : ME X Er i fi)
    (ha : ∀ v, assign (.Subscript o i p') X.env v = (do
      let ov ← holding [v] (eval o X.env)
      let iv ← holding [v, ov] (eval i X.env)
      standAt p'
      holding [v, ov, iv] (setItem ov iv v)
      release [v, ov, iv] []) := by intro _; rfl)
    (hs : swapsWithSole [.Subscript o i p'] e pos.line X.env = pure false := by rfl) (hw : swappedStores [.Subscript o i p'] e X.env = pure none := by rfl)
    (h1 : (assignEach [.Subscript o i p'] X.env).map (·.2) = [assign (.Subscript o i p') X.env] := by rfl) : MS X Er (.Assign [.Subscript o i p'] e pos) (sPut fo fi f) :=
  PS.imp (ps_asg he (pg_sub ho hi set_list ha) hs hw h1) fun D σ H ⟨F, m, G, S, ρ, w, r, z⟩ => by
  refine rd_mono (rd_bndS (A := rV X.K) w r z) fun v H1 ⟨F1, m1, S1, a1, e1, w1, r1, ra, q1⟩ => ?_
  refine rd_mono (rd_bndS (A := rV X.K) w1 r1 q1) fun ov H2 ⟨F2, m2, S2, a2, e2, w2, r2, rb, q2⟩ => ?_
  refine rd_mono (rd_bndS (A := rV X.K) w2 r2 q2) fun iv H3 ⟨F3, m3, S3, a3, e3, w3, r3, rc, q3⟩ => ?_
  have rb := rb.mono e3
  have ra := ra.mono (e2.trans e3)
  unfold bnd at q3
  cases q : setC a2 a3 a1 S3 with
  | err => exfalso; unfold setC at q; repeat (first | (split at q) | cases q)
  | no => rw [q] at q3; exact q3.elim
  | ok u S4 =>
    rw [q] at q3
    obtain ⟨n, k, y, xs, j, rfl, rfl, rfl, hx, hj, rfl⟩ := setC_ok q
    obtain ⟨a, hm, rfl⟩ := rb
    cases rc
    obtain ⟨oo, ho, rr⟩ := w3.cells n a _ hm hx
    cases rr with
    | lst rs =>
      refine ⟨a, _, k, j, rfl, rfl, ho, by rw [← rs.length]; exact hj, ?_⟩
      exact q3 F3 m3 _ (Ext.refl _ _) (w3.write hm (.lst (rs.set ra j))) σ r3
end

/-! ### what is walked -/
/-- J yields the data ds in a row, wherever F stands -/
structure Walk (K : Frag) (F : Hp) (J : It) (ds : List D) : Prop where
  go : ∀ (i : Nat) (H : Hp), Same F H → i < ds.length → J.go i H
  yld : ∀ (i : Nat) (H : Hp) (x : V) (H' : Hp), Same F H → i < ds.length → J.yld i H x H' → ∃ d, ds[i]? = some d ∧ ((H' = H ∧ Rep K F d x) ∨ ∃ p o, H p = none ∧ H' = upd H p o ∧ Rep K (upd F p o) d x)
  stop : ∀ (i : Nat) (H : Hp), Same F H → ds.length ≤ i → J.stop i H
theorem same_both {F F1 : Hp} {p : Addr} {o : HO} (s : Same F F1) : Same (upd F p o) (upd F1 p o) := fun b x e => by
  by_cases hb : b = p
  · subst hb; rw [upd_same] at e ⊢; exact e
  · rw [upd_ne hb] at e ⊢; exact s b x e
/-- the next item, and the world behind it -/
theorem Walk.nxt {K : Frag} {F0 F1 G H1 H' : Hp} {m0 m1 : List Addr} {S1 : Sto} {J : It} {ds : List D} {i : Nat} {x : V} (wk : Walk K F0 J ds) (e1 : Ext F0 F1 m0 m1) (w1 : Wd K F1 m1 G S1 H1) (hlt : i < ds.length) (y : J.yld i H1 x H') :
    ∃ F2, Ext F1 F2 m1 m1 ∧ Wd K F2 m1 G S1 H' ∧ Rep K F2 ds[i] x := by
  obtain ⟨d, hd, h⟩ := wk.yld i H1 x H' (e1.fro.trans w1.sub) hlt y
  have ed : ds[i] = d := by
    rw [List.getElem?_eq_getElem hlt] at hd
    exact Option.some.inj hd
  rw [ed]
  rcases h with ⟨rfl, r⟩ | ⟨p, o, hp, rfl, r⟩
  · exact ⟨F1, Ext.refl _ _, w1, r.mono e1.fro⟩
  · exact ⟨upd F1 p o, Ext.lay (w1.fresh hp), w1.lay hp o, r.mono (same_both e1.fro)⟩
def tI (K : Frag) (Er : ErT) (f : Env → M (List D)) : TI := fun σ H Rr => ∃ F m G S ρ, Wd K F m G S H ∧ RepE K F m ρ σ ∧ res K Er (fun F m ds J => Walk K F J ds) F m G (f ρ S) Rr
abbrev MI (X : Cx) (Er : ErT) (tg iter : Expr) (f : Env → M (List D)) : Prop := PI X tg iter (tI X.K Er f)
theorem PI.imp {X : Cx} {tg e : Expr} {t t' : TI} (h : PI X tg e t) (i : ∀ σ H Q, t' σ H Q → t σ H Q) : PI X tg e t' := ⟨fun pins s σ H Q I q => h.run pins s σ H Q I (i σ H Q q)⟩
section
variable {X : Cx} {tg e : Expr} {f : Env → M Vl}
/-- lists and tuples that are data -/
def itL (x : Vl) : M (List D) := match x with
  | .d (.lst ds) => pur ds
  | .d (.scr ns) => pur (ns.map D.int)
  | _ => stuck
def itT (x : Vl) : M (List D) := match x with
  | .d (.tup ds) => pur ds
  | _ => stuck
def iOf (g : Vl → M (List D)) (f : Env → M Vl) : Env → M (List D) := fun ρ => bnd (f ρ) g
theorem seq_walk {K : Frag} {F : Hp} {a : Addr} {vs : List V} {ds : List D} (h : SqL K F a vs) (r : Reps K F ds vs) : Walk K F (Itl K a) ds where
  go := fun i H s hi => by
    obtain ⟨v, hv, _⟩ := r.get (i := i) (d := ds[i]) (List.getElem?_eq_getElem hi)
    exact ⟨vs, v, s.seq h, hv⟩
  yld := fun i H x H' s hi y => by
    obtain ⟨rfl, y⟩ := y
    obtain ⟨d, hd, rr⟩ := r.get' (y vs (s.seq h))
    exact ⟨d, hd, .inl ⟨rfl, rr⟩⟩
  stop := fun i H s hi => ⟨vs, s.seq h, by rw [← r.length]; exact hi⟩
theorem tup_walk {K : Frag} {F : Hp} {a : Addr} {vs : List V} {ds : List D} (h : SqT K F a vs) (r : Reps K F ds vs) : Walk K F (Itt K a) ds where
  go := fun i H s hi => by
    obtain ⟨v, hv, _⟩ := r.get (i := i) (d := ds[i]) (List.getElem?_eq_getElem hi)
    exact ⟨vs, v, sqT_mono s h, hv⟩
  yld := fun i H x H' s hi y => by
    obtain ⟨rfl, y⟩ := y
    obtain ⟨d, hd, rr⟩ := r.get' (y vs (sqT_mono s h))
    exact ⟨d, hd, .inl ⟨rfl, rr⟩⟩
  stop := fun i H s hi => ⟨vs, sqT_mono s h, by rw [← r.length]; exact hi⟩
theorem mi_list (h : ME X Er e f) : MI X Er tg e (iOf itL f) := PI.imp (pi_list h) fun σ H Rr ⟨F, m, G, S, ρ, w, r, z⟩ => by
  refine rd_mono (rd_bnd (A := rV X.K) (B := fun F m ds J => Walk X.K F J ds) w r z) fun v H1 ⟨F1, m1, S1, a1, e1, w1, r1, ra, q1⟩ => ?_
  unfold itL at q1
  split at q1
  · cases ra with
    | lst ha rs => exact ⟨_, rfl, ⟨_, w1.sub.seq (SqL.of ha)⟩, res_ok (A := fun F m ds J => Walk X.K F J ds) w1 (seq_walk (SqL.of ha) rs) q1⟩
  · cases ra with
    | scr ha => exact ⟨_, rfl, ⟨_, w1.sub.seq ha⟩, res_ok (A := fun F m ds J => Walk X.K F J ds) w1 (seq_walk ha (reps_ints _ _ _)) q1⟩
  · exact q1.elim
theorem mi_tup (h : ME X Er e f) : MI X Er tg e (iOf itT f) := PI.imp (pi_tup h) fun σ H Rr ⟨F, m, G, S, ρ, w, r, z⟩ => by
  refine rd_mono (rd_bnd (A := rV X.K) (B := fun F m ds J => Walk X.K F J ds) w r z) fun v H1 ⟨F1, m1, S1, a1, e1, w1, r1, ra, q1⟩ => ?_
  unfold itT at q1
  split at q1
  · cases ra with
    | tup ha rs => exact ⟨_, rfl, ⟨_, sqT_mono w1.sub ha⟩, res_ok (A := fun F m ds J => Walk X.K F J ds) w1 (tup_walk ha rs) q1⟩
  · exact q1.elim
/-- a text's signs -/
def signs (z : Str) : List D := z.cps.toList.map fun c => D.str ⟨#[c]⟩
def itS (x : Vl) : M (List D) := match x with
  | .d (.str z) => pur (signs z)
  | _ => stuck
theorem str_walk {K : Frag} {F : Hp} (z : Str) : Walk K F (Its z) (signs z) where
  go := fun i H s hi => by
    unfold signs at hi
    rw [List.length_map, Array.length_toList] at hi
    exact hi
  yld := fun i H x H' s hi y => by
    obtain ⟨rfl, c, hc, rfl⟩ := y
    refine ⟨.str ⟨#[c]⟩, ?_, .inl ⟨rfl, .str _⟩⟩
    unfold signs
    rw [List.getElem?_map, Array.getElem?_toList, hc]
    rfl
  stop := fun i H s hi => by
    unfold signs at hi
    rw [List.length_map, Array.length_toList] at hi
    exact hi
theorem mi_str (h : ME X Er e f) : MI X Er tg e (iOf itS f) := PI.imp (pi_str h) fun σ H Rr ⟨F, m, G, S, ρ, w, r, z⟩ => by
  refine rd_mono (rd_bnd (A := rV X.K) (B := fun F m ds J => Walk X.K F J ds) w r z) fun v H1 ⟨F1, m1, S1, a1, e1, w1, r1, ra, q1⟩ => ?_
  unfold itS at q1
  split at q1
  · cases ra
    exact ⟨_, rfl, res_ok (A := fun F m ds J => Walk X.K F J ds) w1 (str_walk _) q1⟩
  · exact q1.elim
/-- ranges -/
def dInts (lo : Int) (n : Nat) : List D := (List.range n).map fun (i : Nat) => D.int (lo + (i : Int))
def itR (xs : List Vl) : M (List D) := match xs with
  | [.d (.int j)] => if -(2 ^ 62) ≤ j ∧ j < 2 ^ 62 then pur (dInts 0 j.toNat) else stuck
  | [.d (.int i), .d (.int j)] => if (-(2 ^ 62) ≤ i ∧ i < 2 ^ 62) ∧ -(2 ^ 62) ≤ j ∧ j < 2 ^ 62 then pur (dInts i (j - i).toNat) else stuck
  | _ => stuck
def iRg (fs : Env → M (List Vl)) : Env → M (List D) := fun ρ => bnd (fs ρ) itR
theorem ints_walk {K : Frag} {F : Hp} (lo : Int) (n : Nat) : Walk K F (Itr lo n) (dInts lo n) where
  go := fun i H s hi => by
    unfold dInts at hi
    rw [List.length_map, List.length_range] at hi
    exact hi
  yld := fun i H x H' s hi y => by
    obtain ⟨rfl, rfl⟩ := y
    unfold dInts at hi ⊢
    rw [List.length_map, List.length_range] at hi
    refine ⟨.int (lo + (i : Int)), ?_, .inl ⟨rfl, .int _⟩⟩
    rw [List.getElem?_map, List.getElem?_range hi]
    rfl
  stop := fun i H s hi => by
    unfold dInts at hi
    rw [List.length_map, List.length_range] at hi
    exact hi
theorem mi_range1 {a : Expr} {fs : Env → M (List Vl)} {p pos : Pos} (hg : Gl X "range") (hm : X.mg "range" = none) (ha : MA X Er [a] fs) (hl : Ln fs 1) (hs : starEach [a] X.env = [(false, eval a X.env)] := by rfl) : MI X Er tg (.Call (.Name "range" p) [a] [] pos) (iRg fs) :=
  PI.imp (pi_range1 hg hm ha hs) fun σ H Rr ⟨F, m, G, S, ρ, w, r, z⟩ => by
  refine ⟨F, m, G, S, ρ, w, r, ?_⟩
  unfold iRg bnd at z
  cases q : fs ρ S with
  | err => rw [q] at z; exact z
  | no => rw [q] at z; exact z.elim
  | ok xs S1 =>
    rw [q] at z
    have l1 := hl.ln ρ S xs S1 q
    intro F1 m1 H1 vs e1 w1 ra
    replace z : res X.K Er (fun F m ds J => Walk X.K F J ds) F m G (itR xs S1) Rr := z
    unfold itR at z
    split at z
    · rename_i j
      cases ra with
      | cons r1 r2 =>
        cases r2
        cases r1
        split at z
        · rename_i hj
          exact ⟨j, rfl, hj.1, hj.2, res_ok (A := fun F m ds J => Walk X.K F J ds) w1 (ints_walk 0 j.toNat) (res_ext e1 z)⟩
        · exact z.elim
    · cases l1
    · exact z.elim
theorem mi_range2 {a b : Expr} {fs : Env → M (List Vl)} {p pos : Pos} (hg : Gl X "range") (hm : X.mg "range" = none) (ha : MA X Er [a, b] fs) (hl : Ln fs 2) (hs : starEach [a, b] X.env = [(false, eval a X.env), (false, eval b X.env)] := by rfl) (hs2 : starEach [b] X.env = [(false, eval b X.env)] := by rfl) :
    MI X Er tg (.Call (.Name "range" p) [a, b] [] pos) (iRg fs) :=
  PI.imp (pi_range2 hg hm ha hs hs2) fun σ H Rr ⟨F, m, G, S, ρ, w, r, z⟩ => by
  refine ⟨F, m, G, S, ρ, w, r, ?_⟩
  unfold iRg bnd at z
  cases q : fs ρ S with
  | err => rw [q] at z; exact z
  | no => rw [q] at z; exact z.elim
  | ok xs S1 =>
    rw [q] at z
    have l1 := hl.ln ρ S xs S1 q
    intro F1 m1 H1 vs e1 w1 ra
    replace z : res X.K Er (fun F m ds J => Walk X.K F J ds) F m G (itR xs S1) Rr := z
    unfold itR at z
    split at z
    · cases l1
    · rename_i i j
      cases ra with
      | cons r1 r2 =>
        cases r2 with
        | cons r2 r3 =>
          cases r3
          cases r1
          cases r2
          split at z
          · rename_i hj
            exact ⟨i, j, rfl, ⟨hj.1.1, hj.1.2, hj.2.1, hj.2.2⟩, res_ok (A := fun F m ds J => Walk X.K F J ds) w1 (ints_walk i (j - i).toNat) (res_ext e1 z)⟩
          · exact z.elim
    · exact z.elim
end

/-! ### targets of loops and comprehensions: a name, names in brackets -/
inductive Tgt where
  | one (i : Nat) | tup (is : List Nat)
def gSlots : List Nat → TGs
  | [] => gNil
  | i :: is => gCons (gName i) (gSlots is)
def Tgt.tg (K : Frag) : Tgt → TG
  | .one i => gName i
  | .tup is => gTup K is.length (gSlots is)
def Tgt.slots : Tgt → List Nat
  | .one i => [i]
  | .tup is => is
def setAll : List Nat → List D → Env → Env
  | i :: is, d :: ds, ρ => setAll is ds (ρ.set i (some (.d d)))
  | _, _, ρ => ρ
def gSet (t : Tgt) (d : D) (ρ : Env) : M Env := match t, d with
  | .one i, d => pur (ρ.set i (some (.d d)))
  | .tup is, .tup ds => if ds.length = is.length then pur (setAll is ds ρ) else stuck
  | .tup _, _ => stuck
abbrev MG (X : Cx) (tg : Expr) (t : Tgt) : Prop := PG X tg (t.tg X.K)
theorem wipe_set {σ : L2.St} {i : Nat} {x : Option V} : ∀ {vs : List Nat}, i ∈ vs → wipe (σ.set i x) vs = wipe σ vs
  | v :: vs, h => by
    unfold wipe
    by_cases hv : i = v
    · subst hv
      by_cases hm : i ∈ vs
      · rw [wipe_set hm]
      · clear h
        induction vs with
        | nil => simp [wipe]
        | cons u us ih =>
          have hu : i ≠ u := fun z => hm (by simp [z])
          have hs : i ∉ us := fun z => hm (by simp [z])
          unfold wipe
          rw [List.set_comm _ _ (fun z => hu z.symm), ih hs, List.set_comm _ _ hu]
    · have hm : i ∈ vs := by
        rcases List.mem_cons.mp h with z | z
        · exact absurd z hv
        · exact z
      rw [wipe_set hm]
section
variable {K : Frag} {F G H : Hp} {m : List Addr} {S : Sto}
theorem slots_of {vs0 : List Nat} : ∀ {is : List Nat} {ds : List D} {vs : List V} {ρ : Env} {σ : L2.St} {Q : L2.St → Hp → Prop}, Reps K F ds vs → ds.length = is.length → RepE K F m ρ σ →
    (∀ σ2, RepE K F m (setAll is ds ρ) σ2 → (∀ ws : List Nat, (∀ i ∈ is, i ∈ ws) → wipe σ2 ws = wipe σ ws) → Q σ2 H) → gSlots is vs σ H Q
  | [], _, _, ρ, σ, Q, .nil, _, r, h => ⟨rfl, h σ (by unfold setAll; exact r) fun _ _ => rfl⟩
  | i :: is, _, _, ρ, σ, Q, .cons (d := d) (v := v) rd rs, hl, r, h => by
    refine ⟨v, _, rfl, ?_⟩
    refine slots_of (vs0 := vs0) rs (by simpa using hl) (RepE.set r (x := .d d) rd i) fun σ2 r2 hw => h σ2 (by unfold setAll; exact r2) fun ws hs => ?_
    rw [hw ws fun j hj => hs j (List.mem_cons_of_mem _ hj), wipe_set (hs i List.mem_cons_self)]
theorem tgt_of {t : Tgt} {d : D} {v : V} {ρ ρ1 : Env} {σ : L2.St} {S1 : Sto} {Q : L2.St → Hp → Prop} (w : Wd K F m G S H) (rd : Rep K F d v) (r : RepE K F m ρ σ) (hg : gSet t d ρ S = .ok ρ1 S1)
    (h : ∀ σ2, RepE K F m ρ1 σ2 → (∀ ws : List Nat, (∀ i ∈ t.slots, i ∈ ws) → wipe σ2 ws = wipe σ ws) → S1 = S → Q σ2 H) : t.tg K v σ H Q := by
  unfold gSet at hg
  split at hg
  · cases hg
    exact h _ (RepE.set r (x := .d d) rd _) (fun ws hs => wipe_set (hs _ (by simp [Tgt.slots]))) rfl
  · rename_i is ds
    split at hg
    · rename_i hl
      cases hg
      cases rd with
      | tup ht rs => exact ⟨_, _, rfl, sqT_mono w.sub ht, by rw [← rs.length]; exact hl, slots_of (vs0 := []) rs hl r fun σ2 r2 hw => h σ2 r2 hw rfl⟩
    · cases hg
  · cases hg
theorem gSet_no {t : Tgt} {d : D} {ρ : Env} {S : Sto} : (∃ ρ1, gSet t d ρ S = .ok ρ1 S) ∨ gSet t d ρ S = .no := by
  unfold gSet
  split
  · exact .inl ⟨_, rfl⟩
  · split
    · exact .inl ⟨_, rfl⟩
    · exact .inr rfl
  · exact .inr rfl
end
section
variable {X : Cx} {pos : Pos}
theorem mg_name {i : Nat} {x : Str} (hN : X.N.Nodup) (hi : X.N[i]? = some x) (hx : Loc X.env.scope x) (hf : X.fn x = true ∨ X.env.scope.names.lookup x = some .local := by first | exact .inl rfl | exact .inr rfl | assumption) : MG X (.Name x pos) (.one i) := pg_name hN hi hx hf
abbrev MGs (X : Cx) (es : List Expr) (is : List Nat) : Prop := PGs X es (gSlots is)
theorem mgs_nil : MGs X [] [] := pgs_nil
theorem mgs_cons {e : Expr} {es : List Expr} {i : Nat} {is : List Nat} (h1 : MG X e (.one i)) (h2 : MGs X es is) (hs : (assignEach (e :: es) X.env).map (·.2) = assign e X.env :: (assignEach es X.env).map (·.2) := by rfl) : MGs X (e :: es) (i :: is) := pgs_cons h1 h2 hs
theorem mg_tup {es : List Expr} {is : List Nat} {k : Nat} (hc : X.calm = true) (h : MGs X es is) (hn : (assignEach es X.env).length = is.length := by rfl) (hst : (assignEach es X.env).findIdx? (·.1) = none := by rfl) : MG X (.Tuple es k pos) (.tup is) := pg_tup hc h hn hst
end

/-! ### for -/
def forL (t : Tgt) (s : Env → M Out) : List D → Env → M Out
  | [], ρ => pur (.nx ρ)
  | d :: ds, ρ => bnd (gSet t d ρ) fun ρ1 => bnd (s ρ1) fun o => match o with
    | .nx ρ2 => forL t s ds ρ2
    | .ct ρ2 => forL t s ds ρ2
    | .bk ρ2 => pur (.nx ρ2)
    | .rt x => pur (.rt x)
def sFor (f : Env → M (List D)) (t : Tgt) (s : Env → M Out) : Env → M Out := fun ρ => bnd (f ρ) fun ds => forL t s ds ρ
section
variable {X : Cx} {tg iter : Expr} {body : List Stmt} {pos : Pos} {f : Env → M (List D)} {t : Tgt} {s : Env → M Out}
theorem ms_for (hp : PassesOwn (model X.prog X.w) X.A X.env X.xe) (hc : X.calm = true) (hi : MI X Er tg iter f) (hg : MG X tg t) (hb : MSs X Er body s) (hs : ∀ x, foldedSetIterable iter X.env x = pure x := by intro _; rfl) :
    MS X Er (.For tg iter body [] pos) (sFor f t s) := PS.imp (ps_for hp hc hi hg hb hs) fun D σ H ⟨F, m, G, S, ρ, w, r, z⟩ => by
  refine ⟨F, m, G, S, ρ, w, r, ?_⟩
  unfold sFor bnd at z
  cases q : f ρ S with
  | err => rw [q] at z; exact z
  | no => rw [q] at z; exact z
  | ok ds S0 =>
    rw [q] at z
    intro F0 m0 H0 J e0 w0 wk
    have z := resS_ext e0 z
    -- the invariant: from the turn i on, the rest of the data runs to what is wanted
    refine ⟨fun i k σ1 H1 => k = ds.length - i ∧ i ≤ ds.length ∧ ∃ F1 m1 S1 ρ1, Ext F0 F1 m0 m1 ∧ Wd X.K F1 m1 G S1 H1 ∧ RepE X.K F1 m1 ρ1 σ1 ∧ resS X.K Er D F1 m1 G (forL t s (ds.drop i) ρ1 S1),
      ⟨ds.length, by simp, Nat.zero_le _, F0, m0, S0, ρ, Ext.refl _ _, w0, r.mono e0, by rw [List.drop_zero]; exact z⟩, ?_⟩
    rintro i k σ1 H1 ⟨rfl, hi, F1, m1, S1, ρ1, e1, w1, r1, z1⟩
    have sub : Same F0 H1 := e1.fro.trans w1.sub
    by_cases hlt : i < ds.length
    · rw [List.drop_eq_getElem_cons hlt] at z1
      unfold forL at z1
      refine .inr ⟨wk.go i H1 sub hlt, fun σ2 H2 => ∃ F2 m2 S2 ρ2, Ext F0 F2 m0 m2 ∧ Wd X.K F2 m2 G S2 H2 ∧ RepE X.K F2 m2 ρ2 σ2 ∧ resS X.K Er D F2 m2 G (forL t s (ds.drop (i + 1)) ρ2 S2),
        fun σ2 H2 ⟨F2, m2, S2, ρ2, e2, w2, r2, z2⟩ => ⟨ds.length - (i + 1), by omega, rfl, hlt, F2, m2, S2, ρ2, e2, w2, r2, z2⟩, fun x H' y => ?_⟩
      obtain ⟨F1', e1', w1', rd⟩ := wk.nxt e1 w1 hlt y
      have r1' := r1.mono e1'
      have z1 := resS_ext e1' z1
      have e1' := e1.trans e1'
      clear w1 r1 e1
      have w1 := w1'
      have r1 := r1'
      have e1 := e1'
      unfold bnd at z1
      rcases gSet_no (t := t) (d := ds[i]) (ρ := ρ1) (S := S1) with ⟨ρ2, q1⟩ | q1
      · rw [q1] at z1
        refine tgt_of w1 rd r1 q1 fun σ2 r2 _ _ => ?_
        refine ⟨F1', m1, G, S1, ρ2, w1, r2, ?_⟩
        simp only [] at z1
        cases q2 : s ρ2 S1 with
        | err => rw [q2] at z1; exact z1
        | no => rw [q2] at z1; exact z1
        | ok o S3 =>
          rw [q2] at z1
          intro F3 m3 H3 e3 w3
          have z3 := resS_ext e3 z1
          cases o with
          | nx ρ3 => exact fun σ3 r3 => ⟨F3, m3, S3, ρ3, e1.trans e3, w3, r3, z3⟩
          | ct ρ3 => exact fun σ3 r3 => ⟨F3, m3, S3, ρ3, e1.trans e3, w3, r3, z3⟩
          | bk ρ3 => exact fun σ3 r3 => z3 F3 m3 H3 (Ext.refl _ _) w3 σ3 r3
          | rt v3 => exact fun σ3 r3 => z3 F3 m3 H3 (Ext.refl _ _) w3 σ3 r3
      · rw [q1] at z1; exact z1.elim
    · have ei : i = ds.length := by omega
      subst ei
      rw [List.drop_length] at z1
      exact .inl ⟨wk.stop _ H1 sub (Nat.le_refl _), z1 F1 m1 H1 (Ext.refl _ _) w1 σ1 r1⟩
end

/-! ### comprehensions -/
def asD (x : Vl) : M D := match x with
  | .d y => pur y
  | .c _ => stuck
/-- the slots of the block's own names are forgotten -/
def wipeE (ρ : Env) : List Nat → Env
  | [] => ρ
  | v :: vs => (wipeE ρ vs).set v none
theorem RepE.wipe {K : Frag} {F : Hp} {m : List Addr} {ρ : Env} {σ : L2.St} (h : RepE K F m ρ σ) : ∀ vs : List Nat, RepE K F m (wipeE ρ vs) (L2.wipe σ vs)
  | [] => h
  | v :: vs => RepE.unset (RepE.wipe h vs) v Option.none
def lcL (t : Tgt) (p : Env → M Bool) (f : Env → M Vl) (ρ : Env) : List D → M (List D)
  | [] => pur []
  | d :: ds => bnd (gSet t d ρ) fun ρ1 => bnd (p ρ1) fun b => match b with
    | true => bnd (f ρ1) fun x => bnd (asD x) fun y => bnd (lcL t p f ρ ds) fun ys => pur (y :: ys)
    | false => lcL t p f ρ ds
/-- a comprehension's data: a new list -/
def lcF (it : Env → M (List D)) (t : Tgt) (p : Env → M Bool) (f : Env → M Vl) (own : List Nat) : Env → M (List D) := fun ρ => bnd (it ρ) fun ds => if ds.length ≤ 100000 then noE (lcL t p f (wipeE ρ own) ds) else stuck
/-- the reading of a new list, by its data -/
def tNew (K : Frag) (Er : ErT) (f : Env → M (List D)) : TE := fun σ H Q => ∃ F m G S ρ, Wd K F m G S H ∧ RepE K F m ρ σ ∧ match f ρ S with
  | .ok ds S' => ∀ (F' : Hp) (m' : List Addr) (H' : Hp) (p : Addr) (vs : List V), Ext F F' m m' → Wd K F' m' (upd G p (.lst vs)) S' H' → G p = none → Reps K F' ds vs → Q (.ref p) H'
  | .err x S' => ∀ (F' : Hp) (m' : List Addr) (H' : Hp), Ext F F' m m' → Wd K F' m' G S' H' → Er x F' H'
  | .no => False
def sNew (ds : List D) : M Vl := pur (.d (.lst ds))
def sNewC (ds : List D) : M Vl := fun S => .ok (.c S.length) (S ++ [.lst ds])
def eNew (f : Env → M (List D)) : Env → M Vl := fun ρ => bnd (f ρ) sNew
def eNewC (f : Env → M (List D)) : Env → M Vl := fun ρ => bnd (f ρ) sNewC
abbrev MN (X : Cx) (Er : ErT) (e : Expr) (f : Env → M (List D)) : Prop := PE X e (tNew X.K Er f)
theorem tNew_fro {K : Frag} {f : Env → M (List D)} {σ : L2.St} {H : Hp} {Q : VK} (h : tE K Er (eNew f) σ H Q) : tNew K Er f σ H Q := by
  obtain ⟨F, m, G, S, ρ, w, r, z⟩ := h
  refine ⟨F, m, G, S, ρ, w, r, ?_⟩
  unfold eNew bnd at z
  cases q : f ρ S with
  | err => rw [q] at z; exact z
  | no => rw [q] at z; exact z
  | ok ds S1 =>
    rw [q] at z
    intro F1 m1 H1 p vs e1 w1 hG rs
    exact z _ m1 H1 _ (e1.trans (Ext.lay (w1.gF p _ upd_same))) (w1.freeze hG) (.lst upd_same (rs.mono (same_upd (w1.gF p _ upd_same))))
theorem tNew_cell {K : Frag} {f : Env → M (List D)} {σ : L2.St} {H : Hp} {Q : VK} (h : tE K Er (eNewC f) σ H Q) : tNew K Er f σ H Q := by
  obtain ⟨F, m, G, S, ρ, w, r, z⟩ := h
  refine ⟨F, m, G, S, ρ, w, r, ?_⟩
  unfold eNewC bnd at z
  cases q : f ρ S with
  | err => rw [q] at z; exact z
  | no => rw [q] at z; exact z
  | ok ds S1 =>
    rw [q] at z
    intro F1 m1 H1 p vs e1 w1 hG rs
    refine z _ _ H1 _ (e1.trans (Ext.cell p)) (w1.thaw hG (.lst rs)) ⟨p, ?_, rfl⟩
    rw [← w1.len]
    simp
theorem me_new {X : Cx} {e : Expr} {f : Env → M (List D)} (h : MN X Er e f) : ME X Er e (eNew f) := PE.imp h fun _ _ _ => tNew_fro
theorem me_newC {X : Cx} {e : Expr} {f : Env → M (List D)} (h : MN X Er e f) : ME X Er e (eNewC f) := PE.imp h fun _ _ _ => tNew_cell
/-- what is still to come: dn is done -/
def Rest (K : Frag) (G : Hp) (t : Tgt) (p : Env → M Bool) (f : Env → M Vl) (ρ : Env) (Q : VK) (F : Hp) (m : List Addr) (S : Sto) (dn ds : List D) : Prop := match lcL t p f ρ ds S with
  | .ok rs S' => ∀ (F' : Hp) (m' : List Addr) (H' : Hp) (q : Addr) (vs : List V), Ext F F' m m' → Wd K F' m' (upd G q (.lst vs)) S' H' → G q = none → Reps K F' (dn ++ rs) vs → Q (.ref q) H'
  | .err _ _ => False
  | .no => False
section
variable {K : Frag} {G : Hp} {t : Tgt} {p : Env → M Bool} {f : Env → M Vl} {ρ ρ2 : Env} {Q : VK} {F F1 : Hp} {m m1 : List Addr} {S : Sto} {dn ds : List D} {d : D}
theorem Rest.ext (e : Ext F F1 m m1) (h : Rest K G t p f ρ Q F m S dn ds) : Rest K G t p f ρ Q F1 m1 S dn ds := by
  unfold Rest at h ⊢
  cases q : lcL t p f ρ ds S with
  | err => rw [q] at h; exact h
  | no => rw [q] at h; exact h
  | ok rs S' => rw [q] at h; exact fun F' m' H' q vs e' => h F' m' H' q vs (e.trans e')
theorem Rest.fin (h : Rest K G t p f ρ Q F m S dn []) : ∀ (F' : Hp) (m' : List Addr) (H' : Hp) (q : Addr) (vs : List V), Ext F F' m m' → Wd K F' m' (upd G q (.lst vs)) S H' → G q = none → Reps K F' dn vs → Q (.ref q) H' := by
  unfold Rest at h
  unfold lcL pur at h
  simp only [List.append_nil] at h
  exact h
theorem Rest.dead (h : Rest K G t p f ρ Q F m S dn (d :: ds)) (q : gSet t d ρ S = .no) : False := by
  unfold Rest lcL bnd at h
  rw [q] at h
  exact h
theorem Rest.step (h : Rest K G t p f ρ Q F m S dn (d :: ds)) (q : gSet t d ρ S = .ok ρ2 S) : match p ρ2 S with
    | .ok true S2 => (match f ρ2 S2 with
      | .ok (.d y) S3 => Rest K G t p f ρ Q F m S3 (dn ++ [y]) ds
      | _ => False)
    | .ok false S2 => Rest K G t p f ρ Q F m S2 dn ds
    | _ => False := by
  unfold Rest lcL bnd at h
  rw [q] at h
  simp only [] at h
  cases q2 : p ρ2 S with
  | err => rw [q2] at h; exact h.elim
  | no => rw [q2] at h; exact h.elim
  | ok b S2 =>
    rw [q2] at h
    cases b with
    | false => exact h
    | true =>
      simp only [] at h ⊢
      cases q3 : f ρ2 S2 with
      | err => rw [q3] at h; exact h.elim
      | no => rw [q3] at h; exact h.elim
      | ok x S3 =>
        rw [q3] at h
        cases x with
        | c n => exact h.elim
        | d y =>
          unfold Rest
          simp only [asD, pur] at h ⊢
          cases q4 : lcL t p f ρ ds S3 with
          | err => rw [q4] at h; exact h.elim
          | no => rw [q4] at h; exact h.elim
          | ok rs S4 =>
            rw [q4] at h
            simp only [] at h
            intro F' m' H' q vs e w hG rr
            refine h F' m' H' q vs e w hG ?_
            rw [List.append_assoc] at rr
            exact rr
end
theorem wipe_wipe (σ : L2.St) (vs : List Nat) : L2.wipe (L2.wipe σ vs) vs = L2.wipe σ vs := by
  have key : ∀ (us : List Nat), (∀ i ∈ us, i ∈ vs) → L2.wipe (L2.wipe σ us) vs = L2.wipe σ vs := by
    intro us
    induction us with
    | nil => intro _; rfl
    | cons u us ih =>
      intro h
      show L2.wipe ((L2.wipe σ us).set u none) vs = _
      rw [wipe_set (h u List.mem_cons_self)]
      exact ih fun i hi => h i (List.mem_cons_of_mem _ hi)
  exact key vs fun _ h => h
theorem tLc_of {K : Frag} {it : Env → M (List D)} {t : Tgt} {p : Env → M Bool} {f : Env → M Vl} {own : List Nat} {σ : L2.St} {H : Hp} {Q : VK} (hs : ∀ i ∈ t.slots, i ∈ own) (h : tNew K Er (lcF it t p f own) σ H Q) : tLc (tI K Er it) (t.tg K) (tT K er0 p) (tE K er0 f) own σ H Q := by
  obtain ⟨F, m, G, S, ρ, w, r, z⟩ := h
  refine ⟨F, m, G, S, ρ, w, r, ?_⟩
  unfold lcF bnd at z
  cases q : it ρ S with
  | err => rw [q] at z; exact z
  | no => rw [q] at z; exact z
  | ok ds S0 =>
    rw [q] at z
    simp only [] at z
    by_cases hz : ds.length ≤ 100000
    case neg => rw [if_neg hz] at z; exact z.elim
    rw [if_pos hz] at z
    intro F0 m0 H0 J e0 w0 wk Dl hD
    have hG : G Dl = none := w0.gfresh hD
    refine ⟨fun i k H1 => k = ds.length - i ∧ i ≤ ds.length ∧ ∃ F1 m1 S1 dn vs, Ext F0 F1 m0 m1 ∧ Wd K F1 m1 (upd G Dl (.lst vs)) S1 H1 ∧ Reps K F1 dn vs ∧ dn.length ≤ i ∧ Rest K G t p f (wipeE ρ own) Q F1 m1 S1 dn (ds.drop i),
      ⟨ds.length, by simp, Nat.zero_le _, F0, m0, S0, [], [], Ext.refl _ _, w0.push hD _, .nil, Nat.le_refl _, by
        rw [List.drop_zero]
        unfold Rest
        unfold noE at z
        cases q1 : lcL t p f (wipeE ρ own) ds S0 with
        | err => rw [q1] at z; exact z
        | no => rw [q1] at z; exact z
        | ok rs S1 =>
          rw [q1] at z
          exact fun F' m' H' p vs' e => z F' m' H' p vs' (e0.trans e)⟩, ?_⟩
    rintro i k H1 ⟨rfl, hi, F1, m1, S1, dn, vs, e1, w1, rs, hl, z1⟩
    have sub : Same F0 H1 := e1.fro.trans w1.sub
    by_cases hlt : i < ds.length
    · rw [List.drop_eq_getElem_cons hlt] at z1
      refine .inr ⟨wk.go i H1 sub hlt, fun H2 => ∃ F2 m2 S2 dn2 vs2, Ext F0 F2 m0 m2 ∧ Wd K F2 m2 (upd G Dl (.lst vs2)) S2 H2 ∧ Reps K F2 dn2 vs2 ∧ dn2.length ≤ i + 1 ∧ Rest K G t p f (wipeE ρ own) Q F2 m2 S2 dn2 (ds.drop (i + 1)),
        fun H2 ⟨F2, m2, S2, dn2, vs2, e2, w2, r2, l2, z2⟩ => ⟨ds.length - (i + 1), by omega, rfl, hlt, F2, m2, S2, dn2, vs2, e2, w2, r2, l2, z2⟩, fun x H' y => ?_⟩
      obtain ⟨F1', e1', w1', rd⟩ := wk.nxt e1 w1 hlt y
      have z1 := Rest.ext e1' z1
      have rs := rs.mono e1'.fro
      have e1 := e1.trans e1'
      have w1 := w1'
      have rw1 : RepE K F1' m1 (wipeE ρ own) (L2.wipe σ own) := (r.mono (e0.trans e1)).wipe own
      rcases gSet_no (t := t) (d := ds[i]) (ρ := wipeE ρ own) (S := S1) with ⟨ρ2, q1⟩ | q1
      · refine tgt_of w1 rd rw1 q1 fun σ2 r2 hw _ => ⟨(hw own hs).trans (wipe_wipe σ own), ?_⟩
        refine ⟨F1', m1, upd G Dl (.lst vs), S1, ρ2, w1, r2, ?_⟩
        have z2 := z1.step q1
        cases q2 : p ρ2 S1 with
        | err => rw [q2] at z2; exact z2.elim
        | no => rw [q2] at z2; exact z2.elim
        | ok b S2 =>
          rw [q2] at z2
          intro F2 m2 H2 b' e2 w2 eb
          have eb : b = b' := eb
          subst eb
          cases b with
          | false =>
            simp only [] at z2
            rw [if_neg Bool.false_ne_true]
            exact ⟨F2, m2, S2, dn, vs, e1.trans e2, w2, rs.mono e2.fro, by omega, z2.ext e2⟩
          | true =>
            simp only [] at z2
            rw [if_pos rfl]
            refine ⟨F2, m2, upd G Dl (.lst vs), S2, ρ2, w2, r2.mono e2, ?_⟩
            cases q3 : f ρ2 S2 with
            | err => rw [q3] at z2; exact z2.elim
            | no => rw [q3] at z2; exact z2.elim
            | ok xv S3 =>
              rw [q3] at z2
              cases xv with
              | c n => exact z2.elim
              | d yv =>
                intro F3 m3 H3 v e3 w3 rv
                refine ⟨vs, w3.gsub Dl _ upd_same, by rw [← rs.length]; exact sz5' (by omega), F3, m3, S3, dn ++ [yv], vs ++ [v], e1.trans (e2.trans e3), ?_, (rs.mono (e2.trans e3).fro).append (.cons rv .nil), by simp; omega, Rest.ext (e2.trans e3) z2⟩
                exact (w3.unframe hG).frame upd_same (w3.gF Dl _ upd_same) fun n hn => by
                  have := w3.gm n Dl hn
                  rw [upd_same] at this; cases this
      · exact (z1.dead q1).elim
    · have ei : i = ds.length := by omega
      subst ei
      rw [List.drop_length] at z1
      refine .inl ⟨wk.stop _ H1 sub (Nat.le_refl _), ?_⟩
      have z1 := z1.fin
      exact z1 F1 m1 H1 Dl vs (Ext.refl _ _) w1 hG rs
/-! ### the comprehension's rules -/
def bYes : Env → M Bool := fun _ => pur true
abbrev MTs (X : Cx) (Er : ErT) (ifs : List Expr) (p : Env → M Bool) : Prop := PTs X ifs (tT X.K Er p)
theorem mts_nil {X : Cx} : MTs X Er [] bYes := ⟨fun pins s σ H Q I h => pts_nil.run pins s σ H Q I (by
  obtain ⟨F, m, G, S, ρ, w, r, z⟩ := h
  exact res_ok w rfl z)⟩
theorem mts_one {X : Cx} {c : Expr} {p : Env → M Bool} (h : MT X Er c p) : MTs X Er [c] p := pts_one h
section
variable {X : Cx} {elt tg iter : Expr} {ifs : List Expr} {scope : Scope} {own : List (Str × Nat)} {pos : Pos} {it : Env → M (List D)} {t : Tgt} {p : Env → M Bool} {f : Env → M Vl}
theorem mn_lc (own : List (Str × Nat)) (hc : X.calm = true) (hN : X.N.Nodup) (hi : MI X Er tg iter it) (ok : BlkOk X.N X.env.scope scope own)
    (hg : ∀ (s : Shared) (H : Hp) (C : Addr) (cl : List (Str × Addr)) (fp : List Addr), MG (X.blk s H scope (compEnvC scope cl C X.env) fp) tg t) (ht : ∀ (s : Shared) (H : Hp) (C : Addr) (cl : List (Str × Addr)) (fp : List Addr), MTs (X.blk s H scope (compEnvC scope cl C X.env) fp) er0 ifs p)
    (he : ∀ (s : Shared) (H : Hp) (C : Addr) (cl : List (Str × Addr)) (fp : List Addr), ME (X.blk s H scope (compEnvC scope cl C X.env) fp) er0 elt f) (hsl : ∀ i ∈ t.slots, i ∈ own.map (·.2) := by decide) (hs : ∀ x, foldedSetIterable iter X.env x = pure x := by intro _; rfl) :
    MN X Er (.ListComp elt [⟨tg, iter, ifs, 0⟩] scope pos) (lcF it t p f (own.map (·.2))) := PE.imp (pe_lc hc hN hi ok hg ht he hs) fun _ _ _ => tLc_of hsl
/-- y = [..], on one line -/
theorem ms_setLcE {i : Nat} {y : Str} {py spos : Pos} {k : (Env → M (List D)) → Env → M Vl} (hk : ∀ {g : Env → M (List D)} {σ : L2.St} {H : Hp} {Q : VK}, tE X.K Er (k g) σ H Q → tNew X.K Er g σ H Q) (own : List (Str × Nat)) (hc : X.calm = true) (hN : X.N.Nodup) (hy : X.N[i]? = some y) (hyl : X.env.scope.names.lookup y = some .local)
    (hsw : swapsWith (.ListComp elt [⟨tg, iter, ifs, 0⟩] scope pos) (some (.Name y py)) spos.line X.env = pure true) (hi : MI X Er tg iter it) (ok : BlkOk X.N X.env.scope scope own)
    (hg : ∀ (s : Shared) (H : Hp) (C : Addr) (cl : List (Str × Addr)) (fp : List Addr), MG (X.blk s H scope (compEnvC scope cl C X.env) fp) tg t) (ht : ∀ (s : Shared) (H : Hp) (C : Addr) (cl : List (Str × Addr)) (fp : List Addr), MTs (X.blk s H scope (compEnvC scope cl C X.env) fp) er0 ifs p)
    (he : ∀ (s : Shared) (H : Hp) (C : Addr) (cl : List (Str × Addr)) (fp : List Addr), ME (X.blk s H scope (compEnvC scope cl C X.env) fp) er0 elt f) (hsl : ∀ i ∈ t.slots, i ∈ own.map (·.2) := by decide) (hs : ∀ x, foldedSetIterable iter X.env x = pure x := by intro _; rfl) :
    MS X Er (.Assign [.Name y py] (.ListComp elt [⟨tg, iter, ifs, 0⟩] scope pos) spos) (sSet i (k (lcF it t p f (own.map (·.2))))) := PS.imp (ps_setLc hc hN hy hyl hsw hi ok hg ht he hs) fun D σ H ⟨F, m, G, S, ρ, w, r, z⟩ => by
  refine tLc_of (K := X.K) (it := it) (t := t) (p := p) (f := f) hsl (hk ?_)
  refine rd_mono (rd_bndS (A := rV X.K) w r z) fun v H1 ⟨F1, m1, S1, a1, e1, w1, r1, ra, q1⟩ => ?_
  exact q1 F1 m1 H1 (Ext.refl _ _) w1 _ (r1.set ra i)
end

/-! ### a def -/
/-- what a call leaves: young cells are forgotten, but the one that is handed back -/
def gcV (n : Nat) (x : Vl) (S : Sto) : R Vl := match x with
  | .d y => .ok (.d y) (S.take n)
  | .c k => if k < n then .ok (.c k) (S.take n) else match S[k]? with
    | some b => .ok (.c n) (S.take n ++ [b])
    | none => .no
def startE (N : Nat) (xs : List Vl) : Env := xs.map some ++ List.replicate (N - xs.length) none
def fnM (N : Nat) (s : Env → M Out) : List Vl → M Vl := fun xs S => match s (startE N xs) S with
  | .ok (.rt x) S' => gcV S.length x S'
  | .ok (.nx _) S' => gcV S.length (.d .non) S'
  | .ok _ _ => .no
  | .err x S' => .err x (S'.take S.length)
  | .no => .no
theorem pre_take {m m' : List Addr} (h : m <+: m') : m'.take m.length = m := by
  obtain ⟨t, rfl⟩ := h
  rw [List.take_append_of_le_length (Nat.le_refl _), List.take_length]
theorem gc_ok {K : Frag} {F F' G H' : Hp} {m m' : List Addr} {S S' : Sto} {x : Vl} {v : V} {Q : VK} (hl : m.length = S.length) (e : Ext F F' m m') (w : Wd K F' m' G S' H') (r : RepV K F' m' x v) (z : res K Er (rV K) F m G (gcV S.length x S') Q) : Q v H' := by
  have ht := pre_take e.pre
  unfold gcV at z
  cases x with
  | d y =>
    have w2 := w.cut m.length
    rw [ht, hl] at w2
    exact z F' m H' v ⟨e.fro, List.prefix_refl _⟩ w2 r
  | c k =>
    obtain ⟨a, ha, rfl⟩ := r
    simp only [] at z
    split at z
    · rename_i hk
      have w2 := w.cut m.length
      rw [ht, hl] at w2
      refine z F' m H' _ ⟨e.fro, List.prefix_refl _⟩ w2 ⟨a, ?_, rfl⟩
      rw [← ht, List.getElem?_take_of_lt (by omega)]
      exact ha
    · rename_i hk
      cases q : S'[k]? with
      | none => rw [q] at z; exact z.elim
      | some b =>
        rw [q] at z
        have w2 := w.cut1 (n := m.length) (by omega) ha q
        rw [ht] at w2
        have e2 : S'.take m.length = S'.take S.length := by rw [hl]
        rw [e2] at w2
        refine z F' (m ++ [a]) H' _ ⟨e.fro, List.prefix_append _ _⟩ w2 ⟨a, ?_, rfl⟩
        rw [← hl]
        simp
theorem start_rep {K : Frag} {F : Hp} {m : List Addr} {N : List Str} : ∀ {xs : List Vl} {vs : List V}, RepVs K F m xs vs → RepE K F m (startE N.length xs) (L2.start N vs) := fun {xs vs} r => by
  have hl := r.length
  refine ⟨?_, fun i x h => ?_⟩
  · unfold startE L2.start
    simp [hl]
  · unfold startE at h
    have hi : i < xs.length := by
      by_cases hi : i < xs.length
      · exact hi
      · rw [List.getElem?_append_right (by simpa using hi), List.getElem?_replicate] at h
        split at h <;> cases h
    rw [List.getElem?_append_left (by simpa using hi), List.getElem?_map] at h
    have hx : xs[i]? = some x := by
      cases q : xs[i]? with
      | none => rw [q] at h; cases h
      | some y => rw [q] at h; cases h; rfl
    have key : ∀ {xs : List Vl} {vs : List V} {i : Nat}, RepVs K F m xs vs → xs[i]? = some x → ∃ v, vs[i]? = some v ∧ RepV K F m x v := by
      intro xs vs i r
      induction r generalizing i with
      | nil => intro h; simp at h
      | cons r1 r2 ih =>
        intro h
        cases i with
        | zero => simp at h; subst h; exact ⟨_, rfl, r1⟩
        | succ i => simp at h; obtain ⟨v, h1, h2⟩ := ih h; exact ⟨v, by simpa using h1, h2⟩
    obtain ⟨v, hv, rv⟩ := key r hx
    refine ⟨v, ?_, rv⟩
    unfold L2.start
    rw [List.getElem?_append_left (by rw [List.length_map]; omega), List.getElem?_map, hv]
    rfl
section
variable {P : Program} {w : World} {K : Frag} {mg : Str → Option Value} {base : Heap}
theorem fn_body {N : List Str} {sf : Env → M Out} {n : Nat} {vs : List V} {H : Hp} {Q : VK} {E : XK} (h : spM K n (fnM N.length sf) vs H Q E) : tS K (erE K E) sf { nx := fun _ H' => Q .non H', rt := Q } (L2.start N vs) H := by
  obtain ⟨_, F, m, G, S, xs, w, r, z⟩ := h
  refine ⟨F, m, G, S, startE N.length xs, w, start_rep r, ?_⟩
  unfold fnM at z
  cases q : sf (startE N.length xs) S with
  | err x S' =>
    rw [q] at z
    intro F' m' H' e w'
    have w2 := w'.cut m.length
    rw [pre_take e.pre, w.len] at w2
    exact z F' m H' ⟨e.fro, List.prefix_refl _⟩ w2
  | no => rw [q] at z; exact z
  | ok o S' =>
    rw [q] at z
    intro F' m' H' e w'
    cases o with
    | nx ρ => exact fun σ _ => gc_ok (x := .d .non) w.len e w' Rep.non z
    | rt x => exact fun v rv => gc_ok w.len e w' rv z
    | bk ρ => exact z.elim
    | ct ρ => exact z.elim
theorem fn_okD {x qual : Str} {params : Arguments} {bd : List Stmt} {scope : Scope} {f : Addr} {fd : FuncData} {N ps : List Str} {k : Nat} {sf : Env → M Out} (F : FunD K x qual params bd scope [] [] f fd) (B : Binds K fd ps []) (S : FnScope N ps scope)
    (hb : ∀ (cdv : Value) (A : Around) (outer : List PySem.Env) (s : Shared) (H : Hp) (E : XK), Rm k (A.deeper (envOfC qual scope s.heap.objs.size f cdv)) → MSs (cxOf (CX P w) P w K mg base N qual scope f cdv A outer s H E) (erE K E) bd sf) :
    FnG P w K mg base (CX P w) (k + 1) ps.length f (spM K ps.length (fnM N.length sf)) :=
  fng_of F B S rfl fun cdv A outer s H vs Q E hr _ h => ⟨_, hb cdv A outer s H E hr, fn_body h⟩
end
end Dz

/-! Dz4: operators and built-ins. -/
namespace Dz
open PySem PySem.Spec PyProof.Rows L2
def opt {α β : Type} (o : Option α) (k : α → M β) : M β := match o with
  | some a => k a
  | none => stuck
theorem res_opt {α β γ : Type} {K : Frag} {A : Hp → List Addr → β → γ → Prop} {F G : Hp} {m : List Addr} {S : Sto} {o : Option α} {k : α → M β} {Q : γ → Hp → Prop} (h : res K Er A F m G (opt o k S) Q) : ∃ a, o = some a ∧ res K Er A F m G (k a S) Q := by
  cases o with
  | none => exact h.elim
  | some a => exact ⟨a, rfl, h⟩
/-- a cell's list -/
def getC (n : Nat) : M (List D) := fun S => match S[n]? with
  | some (.lst xs) => .ok xs S
  | _ => .no
theorem res_getC {α β : Type} {K : Frag} {A : Hp → List Addr → α → β → Prop} {F G H : Hp} {m : List Addr} {S : Sto} {n : Nat} {v : V} {k : List D → M α} {Q : β → Hp → Prop} (w : Wd K F m G S H) (r : RepV K F m (.c n) v) (h : res K Er A F m G (bnd (getC n) k S) Q) :
    ∃ a xs vs, v = .ref a ∧ m[n]? = some a ∧ S[n]? = some (.lst xs) ∧ H a = some (.lst vs) ∧ Reps K F xs vs ∧ res K Er A F m G (k xs S) Q := by
  obtain ⟨a, hm, rfl⟩ := r
  unfold bnd getC at h
  cases q : S[n]? with
  | none => rw [q] at h; exact h.elim
  | some b =>
    cases b with
    | ins c fs => rw [q] at h; exact h.elim
    | lst xs =>
      rw [q] at h
      obtain ⟨o, ho, rr⟩ := w.cells n a _ hm q
      cases rr with
      | lst rs => exact ⟨a, xs, _, rfl, hm, rfl, ho, rs, h⟩
section
variable {X : Cx}
theorem opM_of {f : Value → Value → Sem Value} {r : R2} {g : Vl → Vl → M Vl} (h : OpR X f r) (i : ∀ (F : Hp) (m : List Addr) (G : Hp) (S : Sto) (H : Hp) (a b : Vl) (x y : V) (Q : VK), Wd X.K F m G S H → RepV X.K F m a x → RepV X.K F m b y → res X.K Er (rV X.K) F m G (g a b S) Q → r x y H Q) : OpM X Er f g :=
  fun pins s σ H x y v u Q I rx ry ⟨F, m, G, S, a, b, w, ra, rb, z⟩ => h pins s σ H x y v u Q I rx ry (i F m G S H a b x y Q w ra rb z)
/-- two ints -/
def g2I (C : Int → Int → Bool) (k : Int → Int → D) : Vl → Vl → M Vl := fun a b => match a, b with
  | .d (.int i), .d (.int j) => if C i j then pur (.d (k i j)) else stuck
  | _, _ => stuck
theorem opM_I {f : Value → Value → Sem Value} {C : Int → Int → Prop} {k : Int → Int → V} {B : Int → Int → Bool} {kd : Int → Int → D} (h : OpR X f (rI C k)) (hC : ∀ i j, B i j = true → C i j) (hk : ∀ K F i j, Rep K F (kd i j) (k i j)) : OpM X Er f (g2I B kd) :=
  opM_of h fun F m G S H a b x y Q w ra rb z => by
  unfold g2I at z
  split at z
  · rename_i i j
    cases ra
    cases rb
    split at z
    · rename_i hb
      exact ⟨i, j, rfl, rfl, hC i j hb, res_ok w (hk _ _ i j) z⟩
    · exact z.elim
  · exact z.elim
theorem rI_of {f : Value → Value → Sem Value} {k : Int → Int → V} (h : OpR X f (rI0 k)) : OpR X f (rI (fun _ _ => True) k) := fun pins s σ H x y v u Q I rx ry ⟨i, j, e1, e2, _, q⟩ => h pins s σ H x y v u Q I rx ry ⟨i, j, e1, e2, q⟩
def yes2 : Int → Int → Bool := fun _ _ => true
/-- + -/
def opAdd : Vl → Vl → M Vl := fun a b => match a, b with
  | .d (.int i), .d (.int j) => pur (.d (.int (i + j)))
  | .d (.str x), .d (.str y) => if x.length + y.length ≤ 100000 then pur (.d (.str (x ++ y))) else stuck
  | .d (.lst xs), .d (.lst ys) => if xs.length + ys.length ≤ 100000 then pur (.d (.lst (xs ++ ys))) else stuck
  | .d (.tup xs), .d (.tup ys) => if xs.length + ys.length ≤ 100000 then pur (.d (.tup (xs ++ ys))) else stuck
  | _, _ => stuck
theorem om_add : OpM X Er (binaryOp .Add) opAdd := opM_of (op_add.or (op_add_str.or (op_cat.or op_catA))) fun F m G S H a b x y Q w ra rb z => by
  unfold opAdd at z
  split at z
  · cases ra; cases rb
    exact .inl ⟨_, _, rfl, rfl, res_ok w (.int _) z⟩
  · cases ra; cases rb
    split at z
    · rename_i hl
      exact .inr (.inl ⟨_, _, rfl, rfl, sz5 hl, res_ok w (.str _) z⟩)
    · exact z.elim
  · cases ra with
    | lst ha r1 =>
    cases rb with
    | lst hb r2 =>
    split at z
    · rename_i hl
      refine .inr (.inr (.inl ⟨_, _, _, _, rfl, rfl, w.sub _ _ ha, w.sub _ _ hb, by rw [← r1.length, ← r2.length]; exact sz5 hl, fun p hp => ?_⟩))
      exact z _ m _ _ (Ext.lay (w.fresh hp)) (w.lay hp _) (.lst upd_same ((r1.append r2).mono (same_upd (w.fresh hp))))
    · exact z.elim
  · cases ra with
    | tup ha r1 =>
    cases rb with
    | tup hb r2 =>
    split at z
    · rename_i hl
      refine .inr (.inr (.inr ⟨_, _, _, _, rfl, rfl, sqT_mono w.sub ha, sqT_mono w.sub hb, by rw [← r1.length, ← r2.length]; exact sz5 hl, fun e => ?_, fun _ e => ?_, fun _ _ p hp => ?_⟩))
      · subst e
        cases r1
        exact res_ok w (.tup hb r2) z
      · subst e
        cases r2
        rw [List.append_nil] at z
        exact res_ok w (.tup ha r1) z
      · exact z _ m _ _ (Ext.lay (w.fresh hp)) (w.lay hp _) (.tup (.inl (.inl upd_same)) ((r1.append r2).mono (same_upd (w.fresh hp))))
    · exact z.elim
  · exact z.elim
def opSub : Vl → Vl → M Vl := g2I yes2 fun i j => .int (i - j)
theorem om_sub : OpM X Er (binaryOp .Sub) opSub := opM_I (rI_of op_sub) (fun _ _ _ => trivial) fun _ _ _ _ => .int _
/-- * of ints (one of them below 2 ^ 64), of a list and an int -/
def bMul (i j : Int) : Bool := decide (-(2 ^ 64) < i ∧ i < 2 ^ 64) || decide (-(2 ^ 64) < j ∧ j < 2 ^ 64)
def opMul : Vl → Vl → M Vl := fun a b => match a, b with
  | .d (.int i), .d (.int j) => if bMul i j then pur (.d (.int (i * j))) else stuck
  | .d (.lst xs), .d (.int k) => if -(2 ^ 63) ≤ k ∧ k < 2 ^ 63 ∧ xs.length * k.toNat ≤ 100000 then pur (.d (.lst (List.replicate k.toNat xs).flatten)) else stuck
  | _, _ => stuck
theorem reps_rep {K : Frag} {F : Hp} {ds : List D} {vs : List V} (r : Reps K F ds vs) : ∀ n : Nat, Reps K F (List.replicate n ds).flatten (List.replicate n vs).flatten
  | 0 => .nil
  | n + 1 => by
    rw [List.replicate_succ, List.replicate_succ, List.flatten_cons, List.flatten_cons]
    exact r.append (reps_rep r n)
theorem om_mul : OpM X Er (binaryOp .Mult) opMul := opM_of (op_mul.or op_rep) fun F m G S H a b x y Q w ra rb z => by
  unfold opMul at z
  split at z
  · cases ra; cases rb
    split at z
    · rename_i i j hb
      refine .inl ⟨i, j, rfl, rfl, ?_, res_ok w (.int _) z⟩
      unfold bMul at hb
      rw [Bool.or_eq_true, decide_eq_true_iff, decide_eq_true_iff] at hb
      exact hb
    · exact z.elim
  · cases rb
    cases ra with
    | lst ha r1 =>
    split at z
    · rename_i hl
      refine .inr ⟨_, _, _, rfl, rfl, w.sub _ _ ha, hl.1, hl.2.1, by rw [← r1.length]; exact sz5 hl.2.2, fun p hp => ?_⟩
      exact z _ m _ _ (Ext.lay (w.fresh hp)) (w.lay hp _) (.lst upd_same ((reps_rep r1 _).mono (same_upd (w.fresh hp))))
    · exact z.elim
  · exact z.elim
def opMod : Vl → Vl → M Vl := g2I (fun _ j => decide (0 < j)) fun i j => .int (i % j)
theorem om_mod : OpM X Er (binaryOp .Mod) opMod := opM_I op_mod (fun _ _ h => of_decide_eq_true h) fun _ _ _ _ => .int _
def opDiv : Vl → Vl → M Vl := g2I (fun _ j => decide (0 < j ∧ j < 1073741824)) fun i j => .int (i / j)
theorem om_div : OpM X Er (binaryOp .FloorDiv) opDiv := opM_I op_fdiv (fun i j h => by
  have q : 0 < j ∧ j < 1073741824 := of_decide_eq_true h
  exact q) fun _ _ _ _ => .int _
def opPow : Vl → Vl → M Vl := g2I (fun i j => decide (0 ≤ j ∧ (Builtin.Int.intBits i : Int) * j ≤ 2 ^ 27)) fun i j => .int (i ^ j.toNat)
theorem op_powW : OpR X (binaryOp .Pow) (rI (fun i j => 0 ≤ j ∧ (Builtin.Int.intBits i : Int) * j ≤ 2 ^ 27) fun i j => .int (i ^ j.toNat)) := opI fun _ _ _ _ _ _ _ hc q => pow_int hc.1 hc.2 q
theorem om_pow : OpM X Er (binaryOp .Pow) opPow := opM_I op_powW (fun _ _ h => of_decide_eq_true h) fun _ _ _ _ => .int _
def opNeg : Vl → M Vl := fun a => match a with
  | .d (.int i) => pur (.d (.int (-i)))
  | _ => stuck
theorem um_neg : UnR X (unaryOp .USub) (RUM X.K Er opNeg) := fun pins s σ H x u Q I rx ⟨F, m, G, S, a, w, ra, z⟩ => un_neg pins s σ H x u Q I rx (by
  unfold opNeg at z
  split at z
  · cases ra
    exact ⟨_, rfl, res_ok w (.int _) z⟩
  · exact z.elim)

/-! ### comparisons -/
def cmpI (k : Int → Int → Bool) (l : List Nat → List Nat → Bool) : Vl → Vl → M Vl := fun a b => match a, b with
  | .d (.int i), .d (.int j) => pur (.d (.bl (k i j)))
  | .d (.str x), .d (.str y) => pur (.d (.bl (l x.cps.toList y.cps.toList)))
  | _, _ => stuck
theorem om_cmpI {op : CmpOp} {k : Int → Int → Bool} {l : List Nat → List Nat → Bool} (h1 : OpR X (compareOp op) (rI0 fun i j => .bl (k i j))) (h2 : OpR X (compareOp op) (fun x y H Q => ∃ i j, x = .str i ∧ y = .str j ∧ Q (.bl (l i.cps.toList j.cps.toList)) H)) : OpM X Er (compareOp op) (cmpI k l) :=
  opM_of (h1.or h2) fun F m G S H a b x y Q w ra rb z => by
  unfold cmpI at z
  split at z
  · cases ra; cases rb
    exact .inl ⟨_, _, rfl, rfl, res_ok w (.bl _) z⟩
  · cases ra; cases rb
    exact .inr ⟨_, _, rfl, rfl, res_ok w (.bl _) z⟩
  · exact z.elim
def cLt : Vl → Vl → M Vl := cmpI (fun i j => decide (i < j)) fun x y => decide (x < y)
def cLe : Vl → Vl → M Vl := cmpI (fun i j => decide (i ≤ j)) fun x y => !decide (y < x)
def cGt : Vl → Vl → M Vl := cmpI (fun i j => decide (j < i)) fun x y => decide (y < x)
def cGe : Vl → Vl → M Vl := cmpI (fun i j => decide (j ≤ i)) fun x y => !decide (x < y)
theorem om_lt : OpM X Er (compareOp .Lt) cLt := om_cmpI op_lt op_lt_str
theorem om_le : OpM X Er (compareOp .LtE) cLe := om_cmpI op_le op_le_str
theorem om_gt : OpM X Er (compareOp .Gt) cGt := om_cmpI op_gt op_gt_str
theorem om_ge : OpM X Er (compareOp .GtE) cGe := om_cmpI op_ge op_ge_str
/-- is None -/
def isNon : D → Bool
  | .non => true
  | _ => false
def cIs : Vl → Vl → M Vl := fun a b => match a, b with
  | .d x, .d .non => pur (.d (.bl (isNon x)))
  | .c _, .d .non => pur (.d (.bl false))
  | _, _ => stuck
def cIsNot : Vl → Vl → M Vl := fun a b => match a, b with
  | .d x, .d .non => pur (.d (.bl (!isNon x)))
  | .c _, .d .non => pur (.d (.bl true))
  | _, _ => stuck
theorem isNon_rep {K : Frag} {F : Hp} {d : D} {v : V} (h : Rep K F d v) : decide (v = .non) = isNon d := by
  cases h <;> first | rfl | exact decide_eq_false (fun z => nomatch z)
theorem om_is : OpM X Er (compareOp .Is) cIs := opM_of op_isN fun F m G S H a b x y Q w ra rb z => by
  unfold cIs at z
  split at z
  · cases rb
    refine ⟨rfl, ?_⟩
    rw [isNon_rep ra]
    exact res_ok w (.bl _) z
  · cases rb
    obtain ⟨p, _, rfl⟩ := ra
    exact ⟨rfl, res_ok w (.bl _) z⟩
  · exact z.elim
theorem om_isnot : OpM X Er (compareOp .IsNot) cIsNot := opM_of op_notN fun F m G S H a b x y Q w ra rb z => by
  unfold cIsNot at z
  split at z
  · cases rb
    refine ⟨rfl, ?_⟩
    rw [isNon_rep ra]
    exact res_ok w (.bl _) z
  · cases rb
    obtain ⟨p, _, rfl⟩ := ra
    exact ⟨rfl, res_ok w (.bl _) z⟩
  · exact z.elim
/-! data that == compares -/
mutual
def pyOf : D → Option PyData
  | .non => some .none
  | .bl b => some (.bool b)
  | .int i => some (.int i)
  | .str x => some (.str x)
  | .ty _ => none
  | .tup xs => match pyOfs xs with
    | some ps => some (.tuple ps)
    | none => none
  | .lst xs => match pyOfs xs with
    | some ps => some (.list ps)
    | none => none
  | .scr _ => none
  | .dct _ => none
  | .ins _ _ => none
  | .cls _ => none
def pyOfs : List D → Option (List PyData)
  | [] => some []
  | x :: xs => match pyOf x, pyOfs xs with
    | some p, some ps => some (p :: ps)
    | _, _ => none
end
mutual
theorem pyOf_dp {K : Frag} {F H : Hp} (s : Same F H) : ∀ {d : D} {v : V} {p : PyData}, Rep K F d v → pyOf d = some p → Dp K H v p
  | _, _, _, .non, h => by cases h; exact .non
  | _, _, _, .bl b, h => by cases h; exact .bl b
  | _, _, _, .int b, h => by cases h; exact .int b
  | _, _, _, .str b, h => by cases h; exact .str b
  | _, _, _, .ty b, h => by cases h
  | _, _, _, .tup ht rs, h => by
    unfold pyOf at h
    split at h
    · rename_i q
      cases h
      exact .tup (sqT_mono s ht) (pyOfs_dp s rs q)
    · cases h
  | _, _, _, .lst ht rs, h => by
    unfold pyOf at h
    split at h
    · rename_i q
      cases h
      exact .lst (s.seq (SqL.of ht)) (pyOfs_dp s rs q)
    · cases h
  | _, _, _, .scr _, h => by cases h
  | _, _, _, .dct _ _, h => by cases h
  | _, _, _, .ins _ _, h => by cases h
  | _, _, _, .cls _, h => by cases h
theorem pyOfs_dp {K : Frag} {F H : Hp} (s : Same F H) : ∀ {ds : List D} {vs : List V} {ps : List PyData}, Reps K F ds vs → pyOfs ds = some ps → DpAll K H vs ps
  | _, _, _, .nil, h => by cases h; exact .nil
  | _, _, _, .cons r rs, h => by
    unfold pyOfs at h
    split at h
    · rename_i q1 q2
      cases h
      exact .cons (pyOf_dp s r q1) (pyOfs_dp s rs q2)
    · cases h
end
def eqD (a b : D) : Option Bool := match pyOf a, pyOf b with
  | some p, some q => if SeqAt.shaped p && SeqAt.shaped q then some (PyData.eqv p q) else none
  | _, _ => none
def cEq : Vl → Vl → M Vl := fun a b => match a, b with
  | .d x, .d y => opt (eqD x y) fun k => pur (.d (.bl k))
  | _, _ => stuck
def cNe : Vl → Vl → M Vl := fun a b => match a, b with
  | .d x, .d y => opt (eqD x y) fun k => pur (.d (.bl (!k)))
  | _, _ => stuck
theorem eqD_of {K : Frag} {F G H : Hp} {m : List Addr} {S : Sto} {a b : D} {x y : V} {k : Bool} (w : Wd K F m G S H) (ra : Rep K F a x) (rb : Rep K F b y) (h : eqD a b = some k) : ∃ p q, Dp K H x p ∧ Dp K H y q ∧ SeqAt.shaped p = true ∧ SeqAt.shaped q = true ∧ PyData.eqv p q = k := by
  unfold eqD at h
  split at h
  · rename_i p q h1 h2
    split at h
    · rename_i hs
      cases h
      rw [Bool.and_eq_true] at hs
      exact ⟨p, q, pyOf_dp w.sub ra h1, pyOf_dp w.sub rb h2, hs.1, hs.2, rfl⟩
    · cases h
  · cases h
theorem om_eq (hu : X.A.units + 64 < cLine) : OpM X Er (compareOp .Eq) cEq := opM_of (op_eqD hu) fun F m G S H a b x y Q w ra rb z => by
  unfold cEq at z
  split at z
  · obtain ⟨k, h, z⟩ := res_opt z
    obtain ⟨p, q, h1, h2, h3, h4, rfl⟩ := eqD_of w ra rb h
    exact ⟨p, q, h1, h2, h3, h4, res_ok w (.bl _) z⟩
  · exact z.elim
theorem om_ne (hu : X.A.units + 64 < cLine) : OpM X Er (compareOp .NotEq) cNe := opM_of (op_neD hu) fun F m G S H a b x y Q w ra rb z => by
  unfold cNe at z
  split at z
  · obtain ⟨k, h, z⟩ := res_opt z
    obtain ⟨p, q, h1, h2, h3, h4, rfl⟩ := eqD_of w ra rb h
    exact ⟨p, q, h1, h2, h3, h4, res_ok w (.bl _) z⟩
  · exact z.elim
/-- in a text -/
def cIn : Vl → Vl → M Vl := fun a b => match a, b with
  | .d (.str x), .d (.str y) => pur (.d (.bl (!(Builtin.Str.occurrences y x 0 y.length 1).isEmpty)))
  | _, _ => stuck
theorem om_in : OpM X Er (compareOp .In) cIn := opM_of op_in_str fun F m G S H a b x y Q w ra rb z => by
  unfold cIn at z
  split at z
  · cases ra; cases rb
    exact ⟨_, _, rfl, rfl, res_ok w (.bl _) z⟩
  · exact z.elim

/-! ### items -/
def gIx : Vl → Vl → M Vl := fun a b => match a, b with
  | .d (.lst xs), .d (.int i) => opt (atI xs i) fun x => pur (.d x)
  | .d (.scr ns), .d (.int i) => opt (atI ns i) fun n => pur (.d (.int n))
  | .d (.tup xs), .d (.int i) => opt (atI xs i) fun x => pur (.d x)
  | .d (.str z), .d (.int i) => if z.length ≤ 100000 then opt (atI z.cps.toList i) fun c => pur (.d (.str ⟨#[c]⟩)) else stuck
  | .c n, .d (.int i) => bnd (getC n) fun xs => opt (atI xs i) fun x => pur (.d x)
  | _, _ => stuck
theorem atI_rep {K : Frag} {F : Hp} {ds : List D} {vs : List V} {i : Int} {d : D} (r : Reps K F ds vs) (h : atI ds i = some d) : ∃ v, atI vs i = some v ∧ Rep K F d v := by
  unfold atI at h ⊢
  rw [← r.length]
  cases q : ixN ds.length i with
  | none => rw [q] at h; cases h
  | some j =>
    rw [q] at h
    exact r.get h
theorem atI_map {ns : List Int} {i n : Int} (h : atI ns i = some n) : atI (ns.map V.int) i = some (.int n) := by
  unfold atI at h ⊢
  rw [List.length_map]
  cases q : ixN ns.length i with
  | none => rw [q] at h; cases h
  | some j =>
    rw [q] at h
    have h : ns[j]? = some n := h
    show (ns.map V.int)[j]? = _
    rw [List.getElem?_map, h]
    rfl
def eIx (f h : Env → M Vl) : Env → M Vl := eOp gIx f h
theorem ixM : ∀ {F : Hp} {m : List Addr} {G : Hp} {S : Sto} {H : Hp} {a b : Vl} {x y : V} {Q : VK}, Wd X.K F m G S H → RepV X.K F m a x → RepV X.K F m b y → res X.K Er (rV X.K) F m G (gIx a b S) Q → rIx X.K x y H Q := fun {F m G S H a b x y Q} w ra rb z => by
  unfold gIx at z
  split at z
  · cases ra with
    | lst ha rs =>
    cases rb
    obtain ⟨d, h, z⟩ := res_opt z
    obtain ⟨v, hv, rd⟩ := atI_rep rs h
    exact .inl ⟨_, _, _, v, rfl, rfl, w.sub.seq (SqL.of ha), hv, res_ok w rd z⟩
  · cases ra with
    | scr ha =>
    cases rb
    obtain ⟨d, h, z⟩ := res_opt z
    exact .inl ⟨_, _, _, _, rfl, rfl, w.sub.seq ha, atI_map h, res_ok w (.int _) z⟩
  · cases ra with
    | tup ha rs =>
    cases rb
    obtain ⟨d, h, z⟩ := res_opt z
    obtain ⟨v, hv, rd⟩ := atI_rep rs h
    exact .inr (.inl ⟨_, _, _, v, rfl, rfl, sqT_mono w.sub ha, hv, res_ok w rd z⟩)
  · cases ra
    cases rb
    split at z
    · rename_i hl
      obtain ⟨c, h, z⟩ := res_opt z
      exact .inr (.inr ⟨_, _, c, rfl, rfl, sz5 hl, h, res_ok w (.str _) z⟩)
    · exact z.elim
  · obtain ⟨a, xs, vs, rfl, hm, hS, ho, rs, z⟩ := res_getC w ra z
    cases rb
    obtain ⟨d, h, z⟩ := res_opt z
    obtain ⟨v, hv, rd⟩ := atI_rep rs h
    exact .inl ⟨_, _, _, v, rfl, rfl, SqL.of ho, hv, res_ok w rd z⟩
  · exact z.elim
theorem me_ix {a b : Expr} {pos : Pos} {f h : Env → M Vl} (ha : ME X Er a f) (hb : ME X Er b h) (hs : PlainIx b := by exact fun _ _ => rfl) : ME X Er (.Subscript a b pos) (eIx f h) := PE.imp (pe_ix ix_seq ha hb hs) fun σ H Q hw => by
  obtain ⟨F, m, G, S, ρ, w, r, q⟩ := hw
  refine rd_mono (rd_bnd (A := rV X.K) w r q) fun x H1 ⟨F1, m1, S1, a1, e1, w1, r1, ra, q1⟩ => ?_
  refine rd_mono (rd_bnd (A := rV X.K) w1 r1 q1) fun y H2 ⟨F2, m2, S2, a2, e2, w2, r2, rb, q2⟩ => ?_
  exact ixM w2 (ra.mono e2) rb q2

/-! ### built-in functions -/
theorem callM_of {f : Value} {r : List V → Hp → VK → Prop} {g : List Vl → M Vl} (h : CallR X f r) (i : ∀ (F : Hp) (m : List Addr) (G : Hp) (S : Sto) (H : Hp) (xs : List Vl) (vs : List V) (Q : VK), Wd X.K F m G S H → RepVs X.K F m xs vs → res X.K Er (rV X.K) F m G (g xs S) Q → r vs H Q) : CallM X Er f g :=
  fun pins s σ H vs us Q I rx ⟨F, m, G, S, xs, w, ra, z⟩ => h pins s σ H vs us Q I rx (i F m G S H xs vs Q w ra z)
def bLen : List Vl → M Vl := fun xs => match xs with
  | [.d (.lst ds)] => pur (.d (.int ds.length))
  | [.d (.tup ds)] => pur (.d (.int ds.length))
  | [.d (.scr ds)] => pur (.d (.int ds.length))
  | [.d (.str z)] => if z.length ≤ 100000 then pur (.d (.int z.length)) else stuck
  | [.c n] => bnd (getC n) fun ds => pur (.d (.int ds.length))
  | _ => stuck
theorem cm_len : CallM X Er (.builtin "len") bLen := callM_of call_len fun F m G S H xs vs Q w rs z => by
  unfold bLen at z
  split at z
  · cases rs with
    | cons r1 r2 =>
    cases r2
    cases r1 with
    | lst ha r => exact ⟨_, _, rfl, .inl ⟨_, w.sub.seq (SqL.of ha), rfl⟩, by rw [← r.length]; exact res_ok w (.int _) z⟩
  · cases rs with
    | cons r1 r2 =>
    cases r2
    cases r1 with
    | tup ha r => exact ⟨_, _, rfl, .inr ⟨_, sqT_mono w.sub ha, rfl⟩, by rw [← r.length]; exact res_ok w (.int _) z⟩
  · cases rs with
    | cons r1 r2 =>
    cases r2
    cases r1 with
    | scr ha => exact ⟨_, _, rfl, .inl ⟨_, w.sub.seq ha, rfl⟩, by rw [List.length_map]; exact res_ok w (.int _) z⟩
  · cases rs with
    | cons r1 r2 =>
    cases r2
    cases r1
    split at z
    · rename_i hl
      exact ⟨_, _, rfl, ⟨sz5 hl, rfl⟩, res_ok w (.int _) z⟩
    · exact z.elim
  · cases rs with
    | cons r1 r2 =>
    cases r2
    obtain ⟨a, xs, vs, rfl, hm, hS, ho, r, z⟩ := res_getC w r1 z
    exact ⟨_, _, rfl, .inl ⟨_, SqL.of ho, rfl⟩, by rw [← r.length]; exact res_ok w (.int _) z⟩
  · exact z.elim
def bAbs : List Vl → M Vl := fun xs => match xs with
  | [.d (.int i)] => pur (.d (.int (if i < 0 then -i else i)))
  | _ => stuck
theorem cm_abs : CallM X Er (.builtin "abs") bAbs := callM_of call_abs fun F m G S H xs vs Q w rs z => by
  unfold bAbs at z
  split at z
  · cases rs with
    | cons r1 r2 =>
    cases r2
    cases r1
    exact ⟨_, rfl, res_ok w (.int _) z⟩
  · exact z.elim
def bMax : List Vl → M Vl := fun xs => match xs with
  | [.d (.int i), .d (.int j)] => pur (.d (.int (if j > i then j else i)))
  | _ => stuck
def bMin : List Vl → M Vl := fun xs => match xs with
  | [.d (.int i), .d (.int j)] => pur (.d (.int (if j < i then j else i)))
  | _ => stuck
theorem cm_max (hc : X.calm = true) : CallM X Er (.builtin "max") bMax := callM_of (call_max2 hc) fun F m G S H xs vs Q w rs z => by
  unfold bMax at z
  split at z
  · cases rs with
    | cons r1 r2 =>
    cases r2 with
    | cons r2 r3 =>
    cases r3
    cases r1
    cases r2
    exact ⟨_, _, rfl, res_ok w (.int _) z⟩
  · exact z.elim
theorem cm_min (hc : X.calm = true) : CallM X Er (.builtin "min") bMin := callM_of (call_min2 hc) fun F m G S H xs vs Q w rs z => by
  unfold bMin at z
  split at z
  · cases rs with
    | cons r1 r2 =>
    cases r2 with
    | cons r2 r3 =>
    cases r3
    cases r1
    cases r2
    exact ⟨_, _, rfl, res_ok w (.int _) z⟩
  · exact z.elim
def tInt : List Vl → M Vl := fun xs => match xs with
  | [.d (.int i)] => pur (.d (.int i))
  | [.d (.bl k)] => pur (.d (.int (if k then 1 else 0)))
  | _ => stuck
theorem cm_int : CallM X Er (.type "int") tInt := callM_of call_int1 fun F m G S H xs vs Q w rs z => by
  unfold tInt at z
  split at z
  · cases rs with
    | cons r1 r2 =>
    cases r2
    cases r1
    exact .inl ⟨_, rfl, res_ok w (.int _) z⟩
  · cases rs with
    | cons r1 r2 =>
    cases r2
    cases r1
    exact .inr ⟨_, rfl, res_ok w (.int _) z⟩
  · exact z.elim
def tStr : List Vl → M Vl := fun xs => match xs with
  | [.d (.int i)] => if i.natAbs.log2 < 1920 then pur (.d (.str (toString i))) else stuck
  | _ => stuck
theorem cm_str : CallM X Er (.type "str") tStr := callM_of call_str_int fun F m G S H xs vs Q w rs z => by
  unfold tStr at z
  split at z
  · cases rs with
    | cons r1 r2 =>
    cases r2
    cases r1
    split at z
    · rename_i hl
      exact ⟨_, rfl, hl, res_ok w (.str _) z⟩
    · exact z.elim
  · exact z.elim
/-- repr of a bool -/
def bRepr : List Vl → M Vl := fun xs => match xs with
  | [.d (.bl b)] => pur (.d (.str (if b then "True" else "False")))
  | _ => stuck
theorem call_repr_bl : CallR X (.builtin "repr") (fun xs H Q => ∃ b, xs = [.bl b] ∧ Q (.str (if b then "True" else "False")) H) := by
  intro pins s σ H xs us Q I r h
  obtain ⟨b, rfl, q⟩ := h
  obtain ⟨u, rfl, ru⟩ := vals1 r
  cases ru
  exact PySem.P.repr_of_bool ⟨.str _, H, I.tok _, ⟨_, rfl⟩, q⟩
theorem cm_repr : CallM X Er (.builtin "repr") bRepr := callM_of call_repr_bl fun F m G S H xs vs Q w rs z => by
  unfold bRepr at z
  split at z
  · cases rs with
    | cons r1 r2 =>
    cases r2
    cases r1
    exact ⟨_, rfl, res_ok w (.str _) z⟩
  · exact z.elim
/-- all, any of bools -/
def boolsOf : List D → Option (List Bool)
  | [] => some []
  | .bl b :: r => match boolsOf r with
    | some bs => some (b :: bs)
    | none => none
  | _ :: _ => none
theorem bools_rep {K : Frag} {F : Hp} : ∀ {ds : List D} {vs : List V} {bs : List Bool}, Reps K F ds vs → boolsOf ds = some bs → vs = bs.map V.bl
  | _, _, _, .nil, h => by cases h; rfl
  | .bl b :: ds, _, _, .cons r rs, h => by
    unfold boolsOf at h
    cases q : boolsOf ds with
    | none => rw [q] at h; cases h
    | some cs =>
      rw [q] at h
      cases h
      cases r
      rw [bools_rep rs q]
      rfl
  | .non :: ds, _, _, .cons r rs, h => by cases h
  | .int _ :: ds, _, _, .cons r rs, h => by cases h
  | .str _ :: ds, _, _, .cons r rs, h => by cases h
  | .ty _ :: ds, _, _, .cons r rs, h => by cases h
  | .tup _ :: ds, _, _, .cons r rs, h => by cases h
  | .lst _ :: ds, _, _, .cons r rs, h => by cases h
  | .scr _ :: ds, _, _, .cons r rs, h => by cases h
  | .dct _ :: ds, _, _, .cons r rs, h => by cases h
  | .ins _ _ :: ds, _, _, .cons r rs, h => by cases h
  | .cls _ :: ds, _, _, .cons r rs, h => by cases h
def bAll : List Vl → M Vl := fun xs => match xs with
  | [.d (.lst ds)] => opt (boolsOf ds) fun bs => pur (.d (.bl (bs.all id)))
  | _ => stuck
def bAny : List Vl → M Vl := fun xs => match xs with
  | [.d (.lst ds)] => opt (boolsOf ds) fun bs => pur (.d (.bl (bs.any id)))
  | _ => stuck
theorem cm_all (hc : X.calm = true) : CallM X Er (.builtin "all") bAll := callM_of (cr_all hc) fun F m G S H xs vs Q w rs z => by
  unfold bAll at z
  split at z
  · cases rs with
    | cons r1 r2 =>
    cases r2
    cases r1 with
    | lst ha r =>
    obtain ⟨bs, h, z⟩ := res_opt z
    have e := bools_rep r h
    subst e
    exact ⟨_, bs, rfl, w.sub.seq (SqL.of ha), res_ok w (.bl _) z⟩
  · exact z.elim
theorem cm_any (hc : X.calm = true) : CallM X Er (.builtin "any") bAny := callM_of (cr_any hc) fun F m G S H xs vs Q w rs z => by
  unfold bAny at z
  split at z
  · cases rs with
    | cons r1 r2 =>
    cases r2
    cases r1 with
    | lst ha r =>
    obtain ⟨bs, h, z⟩ := res_opt z
    have e := bools_rep r h
    subst e
    exact ⟨_, bs, rfl, w.sub.seq (SqL.of ha), res_ok w (.bl _) z⟩
  · exact z.elim
/-- isinstance(x, a built-in type) -/
def tyN : D → Option String
  | .non => some "NoneType" | .bl _ => some "bool" | .int _ => some "int" | .str _ => some "str" | .ty _ => none
  | .tup _ => some "tuple" | .lst _ => some "list" | .scr _ => some "list" | .dct _ => some "dict" | .ins _ _ => none | .cls _ => none
def bIsi : List Vl → M Vl := fun xs => match xs with
  | [.d x, .d (.ty T)] => opt (tyN x) fun t => opt (kitB t T) fun b => pur (.d (.bl b))
  | _ => stuck
theorem tyN_rep {K : Frag} {F H : Hp} (s : Same F H) {d : D} {v : V} {t : String} (r : Rep K F d v) (h : tyN d = some t) : TyX K H v (.type t) := by
  cases r with
  | non => cases h; exact .base .non
  | bl b => cases h; exact .base (.bl b)
  | int b => cases h; exact .base (.int b)
  | str b => cases h; exact .base (.str b)
  | ty b => cases h
  | tup ht rs =>
    cases h
    rcases ht with (ht | ⟨o, ht⟩) | ⟨o, its, n, hk, hc, _⟩
    · exact .base (.tup (s _ _ ht))
    · exact .fTuple (s _ _ ht)
    · exact .kTuple hk hc
  | lst ht rs => cases h; exact .base (.lst (s _ _ ht))
  | scr ht =>
    cases h
    rcases ht with (ht | ⟨o, ht⟩) | ⟨o, its, n, hk, hc, _⟩
    · exact .base (.lst (s _ _ ht))
    · exact .base (.frz (s _ _ ht))
    · exact .kList hk hc
  | dct ht rs => cases h; exact .base (.dK (s _ _ ht))
  | ins ht rs => cases h
  | cls c => cases h
theorem cm_isi : CallM X Er (.builtin "isinstance") bIsi := callM_of call_isi fun F m G S H xs vs Q w rs z => by
  unfold bIsi at z
  split at z
  · cases rs with
    | cons r1 r2 =>
    cases r2 with
    | cons r2 r3 =>
    cases r3
    cases r2
    obtain ⟨t, ht, z⟩ := res_opt z
    obtain ⟨b, hb, z⟩ := res_opt z
    exact ⟨_, _, _, _, b, rfl, .ty _, tyN_rep w.sub r1 ht, kit_ty hb, res_ok w (.bl _) z⟩
  · exact z.elim
theorem me_ty {x : Str} {T : String} {pos : Pos} (hg : Gl X x) (hm : X.mg x = none) (hv : bootBuiltins x = some (.type T)) (hn : x ≠ "__name__" := by decide) (hd : (x == ("__debug__" : Str)) = false := by decide) : ME X Er (.Name x pos) (eC (.ty T)) := me_c (v := .ty T) (pe_bltn hg hm hv rfl hn hd) fun _ _ => .ty T

/-! ### methods of texts -/
def strsOf : List D → Option (List Str)
  | [] => some []
  | .str b :: r => match strsOf r with
    | some bs => some (b :: bs)
    | none => none
  | _ :: _ => none
theorem strs_rep {K : Frag} {F : Hp} : ∀ {ds : List D} {vs : List V} {bs : List Str}, Reps K F ds vs → strsOf ds = some bs → vs = bs.map V.str
  | _, _, _, .nil, h => by cases h; rfl
  | .str b :: ds, _, _, .cons r rs, h => by
    unfold strsOf at h
    cases q : strsOf ds with
    | none => rw [q] at h; cases h
    | some cs =>
      rw [q] at h
      cases h
      cases r
      rw [strs_rep rs q]
      rfl
  | .non :: ds, _, _, .cons r rs, h => by cases h
  | .int _ :: ds, _, _, .cons r rs, h => by cases h
  | .bl _ :: ds, _, _, .cons r rs, h => by cases h
  | .ty _ :: ds, _, _, .cons r rs, h => by cases h
  | .tup _ :: ds, _, _, .cons r rs, h => by cases h
  | .lst _ :: ds, _, _, .cons r rs, h => by cases h
  | .scr _ :: ds, _, _, .cons r rs, h => by cases h
  | .dct _ :: ds, _, _, .cons r rs, h => by cases h
  | .ins _ _ :: ds, _, _, .cons r rs, h => by cases h
  | .cls _ :: ds, _, _, .cons r rs, h => by cases h
def mJoin : Vl → Vl → M Vl := fun a b => match a, b with
  | .d (.str s), .d (.lst ds) => opt (strsOf ds) fun ys => if (ys.map (·.length)).sum + ys.length * s.length ≤ 100000 then pur (.d (.str (Txt.join s ys))) else stuck
  | .d (.str s), .d (.tup ds) => opt (strsOf ds) fun ys => if (ys.map (·.length)).sum + ys.length * s.length ≤ 100000 then pur (.d (.str (Txt.join s ys))) else stuck
  | _, _ => stuck
theorem mJoin_of {K : Frag} {F G H : Hp} {m : List Addr} {S : Sto} {a b : Vl} {x y : V} {Q : VK} (w : Wd K F m G S H) (ra : RepV K F m a x) (rb : RepV K F m b y) (z : res K Er (rV K) F m G (mJoin a b S) Q) :
    ∃ s p, ∃ ys : List Str, x = .str s ∧ [y] = [.ref p] ∧ (SqL K H p (ys.map V.str) ∨ SqT K H p (ys.map V.str)) ∧ (ys.map (·.length)).sum + ys.length * s.length ≤ 16777216 ∧ Q (.str (Txt.join s ys)) H := by
  unfold mJoin at z
  split at z
  · cases ra
    cases rb with
    | lst hb rs =>
    obtain ⟨ys, hy, z⟩ := res_opt z
    split at z
    · rename_i hl
      have e := strs_rep rs hy
      subst e
      exact ⟨_, _, ys, rfl, rfl, .inl (w.sub.seq (SqL.of hb)), by omega, res_ok w (.str _) z⟩
    · exact z.elim
  · cases ra
    cases rb with
    | tup hb rs =>
    obtain ⟨ys, hy, z⟩ := res_opt z
    split at z
    · rename_i hl
      have e := strs_rep rs hy
      subst e
      exact ⟨_, _, ys, rfl, rfl, .inr (sqT_mono w.sub hb), by omega, res_ok w (.str _) z⟩
    · exact z.elim
  · exact z.elim
def isS (a : Vl) : M Vl := match a with
  | .d (.str s) => pur (.d (.str s))
  | _ => stuck
def eJoin (f h : Env → M Vl) : Env → M Vl := fun ρ => bnd (f ρ) fun a => bnd (isS a) fun a => bnd (h ρ) fun b => mJoin a b
theorem isS_of {α β : Type} {K : Frag} {A : Hp → List Addr → α → β → Prop} {F G : Hp} {m : List Addr} {S : Sto} {a : Vl} {x : V} {k : Vl → M α} {Q : β → Hp → Prop} (ra : RepV K F m a x) (z : res K Er A F m G (bnd (isS a) k S) Q) : ∃ s, x = .str s ∧ a = .d (.str s) ∧ res K Er A F m G (k a S) Q := by
  unfold isS at z
  split at z
  · cases ra
    exact ⟨_, rfl, rfl, z⟩
  · exact z.elim
theorem me_join {o e : Expr} {f h : Env → M Vl} {apos pos : Pos} (ho : ME X Er o f) (he : ME X Er e h) (hs : starEach [e] X.env = [(false, eval e X.env)] := by rfl) (hbase : attributeBase o "join" X.env (eval o X.env) = eval o X.env := by rfl) (hline : (apos.endLine == pos.line) = true := by rfl) :
    ME X Er (.Call (.Attribute o "join" apos) [e] [] pos) (eJoin f h) := PE.imp (pe_join ho he hs hbase hline) fun σ H Q ⟨F, m, G, S, ρ, w, r, q⟩ => by
  refine rd_mono (rd_bnd (A := rV X.K) w r q) fun x H1 ⟨F1, m1, S1, a1, e1, w1, r1, ra, q1⟩ => ?_
  obtain ⟨s, rfl, rfl, q1⟩ := isS_of ra q1
  refine ⟨⟨s, rfl⟩, rd_mono (rd_bnd (A := rV X.K) w1 r1 q1) fun y H2 ⟨F2, m2, S2, a2, e2, w2, r2, rb, q2⟩ => ?_⟩
  exact mJoin_of w2 (RepV.mono e2 ra) rb q2
def mUpper : Vl → M Vl := fun a => match a with
  | .d (.str s) => if s.length ≤ 100000 then pur (.d (.str (Txt.upper s))) else stuck
  | _ => stuck
theorem me_upper {o : Expr} {f : Env → M Vl} {apos pos : Pos} (ho : ME X Er o f) (hbase : attributeBase o "upper" X.env (eval o X.env) = eval o X.env := by rfl) (hline : (apos.endLine == pos.line) = true := by rfl) :
    ME X Er (.Call (.Attribute o "upper" apos) [] [] pos) (eUn mUpper f) := PE.imp (pe_upper ho hbase hline) fun σ H Q ⟨F, m, G, S, ρ, w, r, q⟩ => by
  refine rd_mono (rd_bnd (A := rV X.K) w r q) fun x H1 ⟨F1, m1, S1, a1, e1, w1, r1, ra, q1⟩ => ?_
  unfold mUpper at q1
  split at q1
  · rename_i s
    cases ra
    split at q1
    · rename_i hl
      exact ⟨⟨s, rfl⟩, s, rfl, rfl, by omega, res_ok w1 (.str _) q1⟩
    · exact q1.elim
  · exact q1.elim
/-- {} -/
theorem me_dnew {pos : Pos} : ME X Er (.Dict [] [] pos) (eC (.dct [])) := PE.imp pe_dnewK fun σ H Q ⟨F, m, G, S, ρ, w, r, z⟩ => by
  intro p hp
  exact z _ m _ _ (Ext.lay (w.fresh hp)) (w.lay hp _) (.dct upd_same .nil)
end
/-- the law's end: from what its meaning gives at the script -/
theorem law_end {K : Frag} {H : Hp} {a : Addr} {ns : List Int} {φ : List Vl → M Vl} {E : XK} (hS : SqL K H a (ns.map V.int)) (h : ∃ S', φ [.d (.scr ns)] [] = .ok (.d (.bl true)) S') : spM K 1 φ [.ref a] H (fun v _ => v = .bl true) E := by
  obtain ⟨S', h⟩ := h
  have w : Wd K H [] (fun _ => none) [] H := ⟨Same.refl H, (fun _ _ e => by cases e), (fun _ _ e => by cases e), (fun n a e => by simp at e), rfl, (fun n a b e => by simp at e), (fun n a e => by simp at e), (fun n k a e => by simp at e)⟩
  refine ⟨rfl, H, [], fun _ => none, [], [.d (.scr ns)], w, .cons (show RepV K H [] (.d (.scr ns)) (.ref a) from .scr hS) .nil, ?_⟩
  rw [h]
  intro F' m' H' v e w r
  cases r
  rfl
end Dz

/-! Dz5: laws of the meanings. -/
namespace Dz
open PySem L2
theorem kit_ii : kitB "int" "int" = some true := by decide +kernel
theorem kit_ib : kitB "int" "bool" = some false := by decide +kernel
theorem kit_is : kitB "int" "str" = some false := by decide +kernel
theorem kit_it : kitB "int" "tuple" = some false := by decide +kernel
theorem kit_bi : kitB "bool" "int" = some true := by decide +kernel
theorem kit_bb : kitB "bool" "bool" = some true := by decide +kernel
theorem kit_bs : kitB "bool" "str" = some false := by decide +kernel
theorem kit_bt : kitB "bool" "tuple" = some false := by decide +kernel
theorem kit_si : kitB "str" "int" = some false := by decide +kernel
theorem kit_sb : kitB "str" "bool" = some false := by decide +kernel
theorem kit_ss : kitB "str" "str" = some true := by decide +kernel
theorem kit_st : kitB "str" "tuple" = some false := by decide +kernel
theorem kit_ni : kitB "NoneType" "int" = some false := by decide +kernel
theorem kit_ns : kitB "NoneType" "str" = some false := by decide +kernel
theorem kit_nt : kitB "NoneType" "tuple" = some false := by decide +kernel
theorem kit_ti : kitB "tuple" "int" = some false := by decide +kernel
theorem kit_ts : kitB "tuple" "str" = some false := by decide +kernel
theorem kit_tt : kitB "tuple" "tuple" = some true := by decide +kernel
theorem kit_li : kitB "list" "int" = some false := by decide +kernel
theorem kit_ls : kitB "list" "str" = some false := by decide +kernel
theorem kit_lt : kitB "list" "tuple" = some false := by decide +kernel
theorem kit_di : kitB "dict" "int" = some false := by decide +kernel
theorem kit_ds : kitB "dict" "str" = some false := by decide +kernel
theorem kit_dt : kitB "dict" "tuple" = some false := by decide +kernel
/-! ### a def whose body gives a datum and leaves the store -/
theorem fnM_rt {N : Nat} {s : Env → M Out} {xs : List Vl} {y : D} (h : s (startE N xs) = pur (.rt (.d y))) : fnM N s xs = pur (.d y) := by
  funext S
  unfold fnM
  rw [h]
  show gcV S.length (.d y) S = _
  unfold gcV
  rw [List.take_length]
  rfl
theorem fnM_at {N : Nat} {s : Env → M Out} {xs : List Vl} {y : D} {S S' : Sto} (h : s (startE N xs) S = .ok (.rt (.d y)) S') : fnM N s xs S = .ok (.d y) (S'.take S.length) := by
  unfold fnM
  rw [h]
  rfl
theorem bnd_at {α β : Type} {p : M α} {f : α → M β} {S S' : Sto} {a : α} (h : p S = .ok a S') : bnd p f S = f a S' := by unfold bnd; rw [h]
theorem pur_at {α : Type} (a : α) (S : Sto) : pur a S = .ok a S := rfl
theorem getC_at {n : Nat} {xs : List D} {S : Sto} (h : S[n]? = some (.lst xs)) : getC n S = .ok xs S := by unfold getC; rw [h]
end Dz

/-! Dz6: what a computation comes to. -/
namespace Dz
open PySem L2
def wp {α : Type} (p : M α) (S : Sto) (Q : α → Sto → Prop) : Prop := ∃ a S', p S = .ok a S' ∧ Q a S'
theorem wp_pur {α : Type} {a : α} {S : Sto} {Q : α → Sto → Prop} : wp (pur a) S Q ↔ Q a S := by
  refine ⟨fun ⟨b, S', e, q⟩ => ?_, fun h => ⟨a, S, rfl, h⟩⟩
  cases e
  exact q
theorem wp_bnd {α β : Type} {p : M α} {f : α → M β} {S : Sto} {Q : β → Sto → Prop} : wp (bnd p f) S Q ↔ wp p S fun a S' => wp (f a) S' Q := by
  constructor
  · rintro ⟨b, S', e, q⟩
    unfold bnd at e
    cases h : p S with
    | err => rw [h] at e; cases e
    | no => rw [h] at e; cases e
    | ok a S1 =>
      rw [h] at e
      exact ⟨a, S1, h, b, S', e, q⟩
  · rintro ⟨a, S1, h, b, S', e, q⟩
    exact ⟨b, S', by unfold bnd; rw [h]; exact e, q⟩
theorem wp_mono {α : Type} {p : M α} {S : Sto} {Q Q' : α → Sto → Prop} (h : wp p S Q) (i : ∀ a S', Q a S' → Q' a S') : wp p S Q' := by
  obtain ⟨a, S', e, q⟩ := h
  exact ⟨a, S', e, i a S' q⟩
theorem wp_eq {α : Type} {p q : M α} {S : Sto} {Q : α → Sto → Prop} (e : p = q) (h : wp q S Q) : wp p S Q := by rw [e]; exact h
theorem wp_getC {n : Nat} {xs : List D} {S : Sto} {Q : List D → Sto → Prop} (h : S[n]? = some (.lst xs)) (q : Q xs S) : wp (getC n) S Q := ⟨xs, S, getC_at h, q⟩
theorem wp_at {α : Type} {p : M α} {S S' : Sto} {a : α} {Q : α → Sto → Prop} (h : p S = .ok a S') (q : Q a S') : wp p S Q := ⟨a, S', h, q⟩
/-- a def by its body: it gives back a datum -/
theorem wp_fn {N : Nat} {s : Env → M Out} {xs : List Vl} {S : Sto} {Q : Vl → Sto → Prop} (h : wp (s (startE N xs)) S fun o S' => ∃ y, o = .rt (.d y) ∧ Q (.d y) (S'.take S.length)) : wp (fnM N s xs) S Q := by
  obtain ⟨o, S', e, y, rfl, q⟩ := h
  exact ⟨.d y, _, fnM_at e, q⟩
/-- .. a new cell -/
theorem wp_fnC {N : Nat} {s : Env → M Out} {xs : List Vl} {S : Sto} {Q : Vl → Sto → Prop} (h : wp (s (startE N xs)) S fun o S' => ∃ k b, o = .rt (.c k) ∧ S.length ≤ k ∧ S'[k]? = some b ∧ Q (.c S.length) (S'.take S.length ++ [b])) : wp (fnM N s xs) S Q := by
  obtain ⟨o, S', e, k, b, rfl, hk, hb, q⟩ := h
  refine ⟨.c S.length, _, ?_, q⟩
  unfold fnM
  rw [e]
  show gcV S.length (.c k) S' = _
  unfold gcV
  simp only []
  rw [if_neg (by omega), hb]
theorem wp_opt {α β : Type} {o : Option α} {k : α → M β} {S : Sto} {Q : β → Sto → Prop} {a : α} (h : o = some a) (q : wp (k a) S Q) : wp (opt o k) S Q := by
  subst h
  exact q
theorem wp_ifT {α : Type} {c : Prop} [Decidable c] {p q : M α} {S : Sto} {Q : α → Sto → Prop} (h : c) (z : wp p S Q) : wp (if c then p else q) S Q := by rw [if_pos h]; exact z
/-- a comprehension that leaves the store -/
theorem lcL_pure {t : Tgt} {p : Env → M Bool} {f : Env → M Vl} {ρ : Env} {b : D → Bool} {v : D → D} : ∀ (ds : List D), (∀ d ∈ ds, ∃ ρ1, gSet t d ρ = pur ρ1 ∧ p ρ1 = pur (b d) ∧ (b d = true → f ρ1 = pur (.d (v d)))) → lcL t p f ρ ds = pur ((ds.filter b).map v)
  | [], _ => rfl
  | d :: ds, h => by
    obtain ⟨ρ1, h1, h2, h3⟩ := h d List.mem_cons_self
    have ih := lcL_pure ds fun x hx => h x (List.mem_cons_of_mem _ hx)
    unfold lcL
    rw [h1, bnd_ret, h2, bnd_ret]
    cases hb : b d with
    | true =>
      show bnd (f ρ1) _ = _
      rw [h3 hb, bnd_ret]
      show bnd (lcL t p f ρ ds) _ = _
      rw [ih, bnd_ret, List.filter_cons, if_pos hb]
      rfl
    | false =>
      show lcL t p f ρ ds = _
      rw [ih, List.filter_cons, if_neg (by rw [hb]; decide)]
/-- .. that draws: by an invariant of the store -/
theorem lcL_wp {t : Tgt} {f : Env → M Vl} {ρ : Env} {I : Sto → Prop} {B : D → Prop} : ∀ (ds : List D) (S : Sto), I S → (∀ d ∈ ds, ∀ S, I S → ∃ ρ1, gSet t d ρ = pur ρ1 ∧ wp (f ρ1) S fun x S' => ∃ y, x = .d y ∧ B y ∧ I S') →
    wp (lcL t bYes f ρ ds) S fun ys S' => ys.length = ds.length ∧ (∀ y ∈ ys, B y) ∧ I S'
  | [], S, hI, _ => wp_pur.mpr ⟨rfl, fun _ h => (nomatch h), hI⟩
  | d :: ds, S, hI, h => by
    obtain ⟨ρ1, h1, h2⟩ := h d List.mem_cons_self S hI
    unfold lcL
    rw [h1, bnd_ret]
    show wp (bnd (f ρ1) _) S _
    refine wp_bnd.mpr (wp_mono h2 ?_)
    rintro _ S1 ⟨y, rfl, hB, hI1⟩
    show wp (bnd (lcL t bYes f ρ ds) _) S1 _
    refine wp_bnd.mpr (wp_mono (lcL_wp ds S1 hI1 fun x hx => h x (List.mem_cons_of_mem _ hx)) ?_)
    rintro ys S2 ⟨l, hB2, hI2⟩
    refine wp_pur.mpr ⟨by simp [l], fun z hz => ?_, hI2⟩
    rcases List.mem_cons.mp hz with rfl | hz
    · exact hB
    · exact hB2 z hz
/-- a for by an invariant: no turn leaves early -/
theorem forL_wp {t : Tgt} {s : Env → M Out} {I : Nat → Env → Sto → Prop} {Q : Out → Sto → Prop} : ∀ (ds : List D) (i : Nat) (ρ : Env) (S : Sto), I i ρ S → (∀ (j : Nat) (d : D) ρ S, ds[j]? = some d → I (i + j) ρ S → ∃ ρ1, gSet t d ρ = pur ρ1 ∧ wp (s ρ1) S fun o S' => ∃ ρ2, (o = .nx ρ2 ∨ o = .ct ρ2) ∧ I (i + j + 1) ρ2 S') →
    (∀ ρ S, I (i + ds.length) ρ S → Q (.nx ρ) S) → wp (forL t s ds ρ) S Q
  | [], i, ρ, S, hI, _, hq => wp_pur.mpr (hq ρ S hI)
  | d :: ds, i, ρ, S, hI, h, hq => by
    obtain ⟨ρ1, h1, h2⟩ := h 0 d ρ S rfl hI
    unfold forL
    rw [h1, bnd_ret]
    refine wp_bnd.mpr (wp_mono h2 ?_)
    rintro o S1 ⟨ρ2, ho, hI2⟩
    have go : wp (forL t s ds ρ2) S1 Q := forL_wp (I := I) ds (i + 1) ρ2 S1 (by simpa using hI2) (fun j d ρ S hj hI => by
      have := h (j + 1) d ρ S (by simpa using hj) (by rw [show i + (j + 1) = i + 1 + j by omega]; exact hI)
      rw [show i + (j + 1) + 1 = i + 1 + j + 1 by omega] at this
      exact this) fun ρ S hI => hq ρ S (by rw [List.length_cons, show i + (ds.length + 1) = i + 1 + ds.length by omega]; exact hI)
    rcases ho with rfl | rfl
    · exact go
    · exact go
end Dz

/-! Dz7: the steps of wp, one a combinator (for simp only). -/
namespace Dz
open PySem L2
section
variable {S : Sto} {ρ : Env} {f g h : Env → M Vl} {p q : Env → M Bool} {s t : Env → M Out} {fs : Env → M (List Vl)} {i j k : Nat}
theorem w_var {Q : Vl → Sto → Prop} : wp (eVar i ρ) S Q ↔ wp (match ρ[i]? with | some (some x) => pur x | _ => stuck) S Q := Iff.rfl
theorem w_c {d : D} {Q : Vl → Sto → Prop} : wp (eC d ρ) S Q ↔ Q (.d d) S := wp_pur
theorem w_op {o : Vl → Vl → M Vl} {Q : Vl → Sto → Prop} : wp (eOp o f g ρ) S Q ↔ wp (f ρ) S fun x S => wp (g ρ) S fun y S => wp (o x y) S Q := by
  unfold eOp
  rw [wp_bnd]
  simp only [wp_bnd]
theorem w_ix {Q : Vl → Sto → Prop} : wp (eIx f g ρ) S Q ↔ wp (f ρ) S fun x S => wp (g ρ) S fun y S => wp (gIx x y) S Q := w_op
theorem w_un {o : Vl → M Vl} {Q : Vl → Sto → Prop} : wp (eUn o f ρ) S Q ↔ wp (f ρ) S fun x S => wp (o x) S Q := wp_bnd
theorem w_test {Q : Bool → Sto → Prop} : wp (eTest f ρ) S Q ↔ wp (f ρ) S fun x S => wp (asB x) S Q := wp_bnd
theorem w_asB {b : Bool} {Q : Bool → Sto → Prop} : wp (asB (.d (.bl b))) S Q ↔ Q b S := wp_pur
theorem w_not {Q : Bool → Sto → Prop} : wp (bNot p ρ) S Q ↔ wp (p ρ) S fun b S => Q (!b) S := by
  unfold bNot
  rw [wp_bnd]
  simp only [wp_pur]
theorem w_and {Q : Bool → Sto → Prop} : wp (bAnd p q ρ) S Q ↔ wp (p ρ) S fun b S => if b = true then wp (q ρ) S Q else Q false S := by
  unfold bAnd
  rw [wp_bnd]
  constructor
  · exact fun h => wp_mono h fun b S h => by cases b with
      | true => exact h
      | false => exact wp_pur.mp h
  · exact fun h => wp_mono h fun b S h => by cases b with
      | true => exact h
      | false => exact wp_pur.mpr h
theorem w_or {Q : Bool → Sto → Prop} : wp (bOr p q ρ) S Q ↔ wp (p ρ) S fun b S => if b = true then Q true S else wp (q ρ) S Q := by
  unfold bOr
  rw [wp_bnd]
  constructor
  · exact fun h => wp_mono h fun b S h => by cases b with
      | true => exact wp_pur.mp h
      | false => exact h
  · exact fun h => wp_mono h fun b S h => by cases b with
      | true => exact wp_pur.mpr h
      | false => exact h
theorem w_if {Q : Vl → Sto → Prop} : wp (eIf p f g ρ) S Q ↔ wp (p ρ) S fun b S => if b = true then wp (f ρ) S Q else wp (g ρ) S Q := by
  unfold eIf
  rw [wp_bnd]
  constructor <;> exact fun h => wp_mono h fun b S h => by cases b <;> exact h
theorem w_sif {Q : Out → Sto → Prop} : wp (sIf p s t ρ) S Q ↔ wp (p ρ) S fun b S => if b = true then wp (s ρ) S Q else wp (t ρ) S Q := by
  unfold sIf
  rw [wp_bnd]
  constructor <;> exact fun h => wp_mono h fun b S h => by cases b <;> exact h
theorem w_chain {o o' : Vl → Vl → M Vl} {Q : Vl → Sto → Prop} : wp (eChain o o' f g h ρ) S Q ↔ wp (f ρ) S fun x S => wp (g ρ) S fun y S => wp (o x y) S fun z S => wp (asB z) S fun k S => if k = true then wp (h ρ) S fun z S => wp (o' y z) S Q else Q (.d (.bl false)) S := by
  unfold eChain
  simp only [wp_bnd]
  constructor <;> refine fun h => wp_mono h fun x S h => wp_mono h fun y S h => wp_mono h fun z S h => wp_mono h fun k S h => ?_
  · cases k with
    | true => exact wp_bnd.mp h
    | false => exact wp_pur.mp h
  · cases k with
    | true => exact wp_bnd.mpr h
    | false => exact wp_pur.mpr h
theorem w_eand {Q : Vl → Sto → Prop} : wp (eAnd f g ρ) S Q ↔ wp (f ρ) S fun x S => wp (asB x) S fun k S => if k = true then wp (g ρ) S Q else Q (.d (.bl false)) S := by
  unfold eAnd
  simp only [wp_bnd]
  constructor <;> refine fun h => wp_mono h fun x S h => wp_mono h fun k S h => ?_
  · cases k with
    | true => exact h
    | false => exact wp_pur.mp h
  · cases k with
    | true => exact h
    | false => exact wp_pur.mpr h
theorem w_eor {Q : Vl → Sto → Prop} : wp (eOr f g ρ) S Q ↔ wp (f ρ) S fun x S => wp (asB x) S fun k S => if k = true then Q (.d (.bl true)) S else wp (g ρ) S Q := by
  unfold eOr
  simp only [wp_bnd]
  constructor <;> refine fun h => wp_mono h fun x S h => wp_mono h fun k S h => ?_
  · cases k with
    | true => exact wp_pur.mp h
    | false => exact h
  · cases k with
    | true => exact wp_pur.mpr h
    | false => exact h
theorem w_enot {Q : Vl → Sto → Prop} : wp (eNot f ρ) S Q ↔ wp (f ρ) S fun x S => wp (asB x) S fun k S => Q (.d (.bl (!k))) S := by
  unfold eNot
  simp only [wp_bnd, wp_pur]
/-- what follows a statement -/
def after (t : Env → M Out) (Q : Out → Sto → Prop) (o : Out) (S : Sto) : Prop := match o with
  | .nx ρ => wp (t ρ) S Q
  | o => Q o S
theorem w_seq {Q : Out → Sto → Prop} : wp (sSeq s t ρ) S Q ↔ wp (s ρ) S (after t Q) := by
  unfold sSeq
  rw [wp_bnd]
  constructor
  · exact fun h => wp_mono h fun o S h => by cases o with
      | nx ρ => exact h
      | rt x => exact (wp_pur (Q := Q)).mp h
      | bk ρ => exact (wp_pur (Q := Q)).mp h
      | ct ρ => exact (wp_pur (Q := Q)).mp h
  · exact fun h => wp_mono h fun o S h => by cases o with
      | nx ρ => exact h
      | rt x => exact (wp_pur (Q := Q)).mpr h
      | bk ρ => exact (wp_pur (Q := Q)).mpr h
      | ct ρ => exact (wp_pur (Q := Q)).mpr h
theorem after_nx {Q : Out → Sto → Prop} : after t Q (.nx ρ) S ↔ wp (t ρ) S Q := Iff.rfl
theorem after_rt {Q : Out → Sto → Prop} {x : Vl} : after t Q (.rt x) S ↔ Q (.rt x) S := Iff.rfl
theorem w_next {Q : Out → Sto → Prop} : wp (sNext ρ) S Q ↔ Q (.nx ρ) S := wp_pur
theorem w_ret {Q : Out → Sto → Prop} : wp (sRet f ρ) S Q ↔ wp (f ρ) S fun x S => Q (.rt x) S := by
  unfold sRet
  rw [wp_bnd]
  simp only [wp_pur]
theorem w_set {Q : Out → Sto → Prop} : wp (sSet i f ρ) S Q ↔ wp (f ρ) S fun x S => Q (.nx (ρ.set i (some x))) S := by
  unfold sSet
  rw [wp_bnd]
  simp only [wp_pur]
theorem w_drop {Q : Out → Sto → Prop} : wp (sDrop f ρ) S Q ↔ wp (f ρ) S fun x S => Q (.nx ρ) S := by
  unfold sDrop
  rw [wp_bnd]
  simp only [wp_pur]
theorem w_put {Q : Out → Sto → Prop} : wp (sPut f g h ρ) S Q ↔ wp (h ρ) S fun v S => wp (f ρ) S fun o S => wp (g ρ) S fun i S => wp (setC o i v) S fun _ S => Q (.nx ρ) S := by
  unfold sPut
  simp only [wp_bnd, wp_pur]
theorem w_nil {Q : List Vl → Sto → Prop} : wp (aNil ρ) S Q ↔ Q [] S := wp_pur
theorem w_cons {Q : List Vl → Sto → Prop} : wp (aCons f fs ρ) S Q ↔ wp (f ρ) S fun x S => wp (fs ρ) S fun xs S => Q (x :: xs) S := by
  unfold aCons
  simp only [wp_bnd, wp_pur]
theorem w_cb {o : List Vl → M Vl} {Q : Vl → Sto → Prop} : wp (eCB o fs ρ) S Q ↔ wp (fs ρ) S fun xs S => wp (o xs) S Q := wp_bnd
theorem w_call {o : List Vl → M Vl} {Q : Vl → Sto → Prop} : wp (eCall o fs ρ) S Q ↔ wp (fs ρ) S fun xs S => wp (o xs) S Q := wp_bnd
theorem w_tup {Q : Vl → Sto → Prop} : wp (eTup fs ρ) S Q ↔ wp (fs ρ) S fun xs S => wp (dTup xs) S Q := wp_bnd
theorem w_lst {Q : Vl → Sto → Prop} : wp (eLst fs ρ) S Q ↔ wp (fs ρ) S fun xs S => wp (dLst xs) S Q := wp_bnd
theorem w_cell {Q : Vl → Sto → Prop} : wp (eCell fs ρ) S Q ↔ wp (fs ρ) S fun xs S => wp (dCell xs) S Q := wp_bnd
theorem w_for {it : Env → M (List D)} {tg : Tgt} {Q : Out → Sto → Prop} : wp (sFor it tg s ρ) S Q ↔ wp (it ρ) S fun ds S => wp (forL tg s ds ρ) S Q := wp_bnd
theorem w_of {o : Vl → M (List D)} {Q : List D → Sto → Prop} : wp (iOf o f ρ) S Q ↔ wp (f ρ) S fun x S => wp (o x) S Q := wp_bnd
theorem w_rg {Q : List D → Sto → Prop} : wp (iRg fs ρ) S Q ↔ wp (fs ρ) S fun xs S => wp (itR xs) S Q := wp_bnd
theorem w_new {it : Env → M (List D)} {Q : Vl → Sto → Prop} : wp (eNew it ρ) S Q ↔ wp (it ρ) S fun ds S => Q (.d (.lst ds)) S := by
  unfold eNew
  rw [wp_bnd]
  simp only [sNew, wp_pur]
theorem w_newC {it : Env → M (List D)} {Q : Vl → Sto → Prop} : wp (eNewC it ρ) S Q ↔ wp (it ρ) S fun ds S => Q (.c S.length) (S ++ [.lst ds]) := by
  unfold eNewC
  rw [wp_bnd]
  constructor
  · exact fun h => wp_mono h fun ds S ⟨a, S', e, q⟩ => by cases e; exact q
  · exact fun h => wp_mono h fun ds S q => ⟨_, _, rfl, q⟩
theorem wp_noE {α : Type} {q : M α} {S : Sto} {Q : α → Sto → Prop} : wp (noE q) S Q ↔ wp q S Q := by
  unfold wp noE
  constructor
  · rintro ⟨a, S', e, h⟩
    cases z : q S with
    | ok b S2 => rw [z] at e; cases e; exact ⟨_, _, rfl, h⟩
    | err x S2 => rw [z] at e; cases e
    | no => rw [z] at e; cases e
  · rintro ⟨a, S', e, h⟩
    exact ⟨a, S', by rw [e], h⟩
theorem wp_ite_noE {α : Type} {c : Prop} [Decidable c] {q : M α} {S : Sto} {Q : α → Sto → Prop} : wp (if c then noE q else stuck) S Q ↔ wp (if c then q else stuck) S Q := by
  split
  · exact wp_noE
  · exact Iff.rfl
theorem w_lc {it : Env → M (List D)} {tg : Tgt} {own : List Nat} {Q : List D → Sto → Prop} : wp (lcF it tg p f own ρ) S Q ↔ wp (it ρ) S fun ds S => wp (if ds.length ≤ 100000 then lcL tg p f (wipeE ρ own) ds else stuck) S Q := by
  unfold lcF
  rw [wp_bnd]
  simp only [wp_ite_noE]
theorem w_join {Q : Vl → Sto → Prop} : wp (eJoin f g ρ) S Q ↔ wp (f ρ) S fun a S => wp (isS a) S fun a S => wp (g ρ) S fun b S => wp (mJoin a b) S Q := by
  unfold eJoin
  simp only [wp_bnd]
theorem w_isS {x : Str} {Q : Vl → Sto → Prop} : wp (isS (.d (.str x))) S Q ↔ Q (.d (.str x)) S := wp_pur
/-! primitives -/
variable {Q : Vl → Sto → Prop} {a b : Int}
theorem w_add : wp (opAdd (.d (.int a)) (.d (.int b))) S Q ↔ Q (.d (.int (a + b))) S := wp_pur
theorem w_sub : wp (opSub (.d (.int a)) (.d (.int b))) S Q ↔ Q (.d (.int (a - b))) S := wp_pur
theorem w_mul : wp (opMul (.d (.int a)) (.d (.int b))) S Q ↔ wp (if bMul a b = true then pur (.d (.int (a * b))) else stuck) S Q := Iff.rfl
theorem bMul_l {a b : Int} (h : -(2 ^ 64) < a ∧ a < 2 ^ 64) : bMul a b = true := by unfold bMul; rw [decide_eq_true h]; rfl
theorem bMul_r {a b : Int} (h : -(2 ^ 64) < b ∧ b < 2 ^ 64) : bMul a b = true := by unfold bMul; rw [decide_eq_true h, Bool.or_true]
theorem w_mul_l (h : -(2 ^ 64) < a ∧ a < 2 ^ 64) : wp (opMul (.d (.int a)) (.d (.int b))) S Q ↔ Q (.d (.int (a * b))) S := by rw [w_mul, if_pos (bMul_l h), wp_pur]
theorem w_mul_r (h : -(2 ^ 64) < b ∧ b < 2 ^ 64) : wp (opMul (.d (.int a)) (.d (.int b))) S Q ↔ Q (.d (.int (a * b))) S := by rw [w_mul, if_pos (bMul_r h), wp_pur]
theorem w_mod (h : 0 < b) : wp (opMod (.d (.int a)) (.d (.int b))) S Q ↔ Q (.d (.int (a % b))) S := by
  unfold opMod g2I
  simp only [decide_eq_true h, if_true, wp_pur]
theorem w_div (h : 0 < b ∧ b < 1073741824) : wp (opDiv (.d (.int a)) (.d (.int b))) S Q ↔ Q (.d (.int (a / b))) S := by
  unfold opDiv g2I
  simp only [decide_eq_true h, if_true, wp_pur]
theorem w_pow (h : 0 ≤ b ∧ (Builtin.Int.intBits a : Int) * b ≤ 2 ^ 27) : wp (opPow (.d (.int a)) (.d (.int b))) S Q ↔ Q (.d (.int (a ^ b.toNat))) S := by
  unfold opPow g2I
  simp only [decide_eq_true h, if_true, wp_pur]
theorem w_neg : wp (opNeg (.d (.int a))) S Q ↔ Q (.d (.int (-a))) S := wp_pur
theorem w_lt : wp (cLt (.d (.int a)) (.d (.int b))) S Q ↔ Q (.d (.bl (decide (a < b)))) S := wp_pur
theorem w_le : wp (cLe (.d (.int a)) (.d (.int b))) S Q ↔ Q (.d (.bl (decide (a ≤ b)))) S := wp_pur
theorem w_gt : wp (cGt (.d (.int a)) (.d (.int b))) S Q ↔ Q (.d (.bl (decide (b < a)))) S := wp_pur
theorem w_ge : wp (cGe (.d (.int a)) (.d (.int b))) S Q ↔ Q (.d (.bl (decide (b ≤ a)))) S := wp_pur
theorem w_ltS {x y : Str} : wp (cLt (.d (.str x)) (.d (.str y))) S Q ↔ Q (.d (.bl (decide (x.cps.toList < y.cps.toList)))) S := wp_pur
theorem w_leS {x y : Str} : wp (cLe (.d (.str x)) (.d (.str y))) S Q ↔ Q (.d (.bl (!decide (y.cps.toList < x.cps.toList)))) S := wp_pur
theorem w_is {x : D} : wp (cIs (.d x) (.d .non)) S Q ↔ Q (.d (.bl (isNon x))) S := wp_pur
theorem w_isnot {x : D} : wp (cIsNot (.d x) (.d .non)) S Q ↔ Q (.d (.bl (!isNon x))) S := wp_pur
theorem w_isi {x : D} {t T : String} {k : Bool} (h1 : tyN x = some t) (h2 : kitB t T = some k) : wp (bIsi [.d x, .d (.ty T)]) S Q ↔ Q (.d (.bl k)) S := by
  show wp (opt (tyN x) fun t => opt (kitB t T) fun b => pur (.d (.bl b))) S Q ↔ _
  rw [h1]
  show wp (opt (kitB t T) fun b => pur (.d (.bl b))) S Q ↔ _
  rw [h2]
  exact wp_pur
theorem w_eq {x y : D} {k : Bool} (h : eqD x y = some k) : wp (cEq (.d x) (.d y)) S Q ↔ Q (.d (.bl k)) S := by
  show wp (opt (eqD x y) _) S Q ↔ _
  rw [h]
  exact wp_pur
theorem w_ne {x y : D} {k : Bool} (h : eqD x y = some k) : wp (cNe (.d x) (.d y)) S Q ↔ Q (.d (.bl (!k))) S := by
  show wp (opt (eqD x y) _) S Q ↔ _
  rw [h]
  exact wp_pur
theorem w_all {ds : List D} {bs : List Bool} (h : boolsOf ds = some bs) : wp (bAll [.d (.lst ds)]) S Q ↔ Q (.d (.bl (bs.all id))) S := by
  show wp (opt (boolsOf ds) _) S Q ↔ _
  rw [h]
  exact wp_pur
theorem w_any {ds : List D} {bs : List Bool} (h : boolsOf ds = some bs) : wp (bAny [.d (.lst ds)]) S Q ↔ Q (.d (.bl (bs.any id))) S := by
  show wp (opt (boolsOf ds) _) S Q ↔ _
  rw [h]
  exact wp_pur
theorem w_inS {c : Nat} {z : Str} : wp (cIn (.d (.str ⟨#[c]⟩)) (.d (.str z))) S Q ↔ Q (.d (.bl (decide (c ∈ z.cps.toList)))) S := by
  rw [← PySem.StrLaws.found_one z c]
  exact wp_pur
theorem w_rpr {b : Bool} : wp (bRepr [.d (.bl b)]) S Q ↔ Q (.d (.str (if b then "True" else "False"))) S := wp_pur
theorem w_int : wp (tInt [.d (.int a)]) S Q ↔ Q (.d (.int a)) S := wp_pur
theorem w_intb {c : Bool} : wp (tInt [.d (.bl c)]) S Q ↔ Q (.d (.int (if c then 1 else 0))) S := wp_pur
theorem w_abs : wp (bAbs [.d (.int a)]) S Q ↔ Q (.d (.int (if a < 0 then -a else a))) S := wp_pur
theorem w_max : wp (bMax [.d (.int a), .d (.int b)]) S Q ↔ Q (.d (.int (if b > a then b else a))) S := wp_pur
theorem w_min : wp (bMin [.d (.int a), .d (.int b)]) S Q ↔ Q (.d (.int (if b < a then b else a))) S := wp_pur
theorem w_lenL {ds : List D} : wp (bLen [.d (.lst ds)]) S Q ↔ Q (.d (.int ds.length)) S := wp_pur
theorem w_lenT {ds : List D} : wp (bLen [.d (.tup ds)]) S Q ↔ Q (.d (.int ds.length)) S := wp_pur
theorem w_lenR {ds : List Int} : wp (bLen [.d (.scr ds)]) S Q ↔ Q (.d (.int ds.length)) S := wp_pur
theorem w_lenS {x : Str} (h : x.length ≤ 100000) : wp (bLen [.d (.str x)]) S Q ↔ Q (.d (.int x.length)) S := by
  unfold bLen
  simp only [if_pos h, wp_pur]
/-! the die: a cell of three ints -/
variable {n : Nat} {x y z : D}
theorem w_die0 (hn : S[n]? = some (.lst [x, y, z])) : wp (gIx (.c n) (.d (.int 0))) S Q ↔ Q (.d x) S := by
  unfold gIx
  rw [wp_bnd]
  refine ⟨fun ⟨a, S', e, q⟩ => ?_, fun q => wp_getC hn (wp_pur.mpr q)⟩
  rw [getC_at hn] at e
  cases e
  exact wp_pur.mp q
theorem w_die1 (hn : S[n]? = some (.lst [x, y, z])) : wp (gIx (.c n) (.d (.int 1))) S Q ↔ Q (.d y) S := by
  unfold gIx
  rw [wp_bnd]
  refine ⟨fun ⟨a, S', e, q⟩ => ?_, fun q => wp_getC hn (wp_pur.mpr q)⟩
  rw [getC_at hn] at e
  cases e
  exact wp_pur.mp q
theorem w_die2 (hn : S[n]? = some (.lst [x, y, z])) : wp (gIx (.c n) (.d (.int 2))) S Q ↔ Q (.d z) S := by
  unfold gIx
  rw [wp_bnd]
  refine ⟨fun ⟨a, S', e, q⟩ => ?_, fun q => wp_getC hn (wp_pur.mpr q)⟩
  rw [getC_at hn] at e
  cases e
  exact wp_pur.mp q
theorem w_putAt {xs : List D} {k : Int} {j : Nat} {v : D} {Q : Unit → Sto → Prop} (hn : S[n]? = some (.lst xs)) (hj : ixN xs.length k = some j) : wp (setC (.c n) (.d (.int k)) (.d v)) S Q ↔ Q () (S.set n (.lst (xs.set j v))) := by
  have e : setC (.c n) (.d (.int k)) (.d v) S = .ok () (S.set n (.lst (xs.set j v))) := by
    unfold setC
    simp only [hn, hj]
  refine ⟨fun ⟨a, S', e', q⟩ => ?_, fun q => ⟨(), _, e, q⟩⟩
  rw [e] at e'
  cases e'
  exact q
theorem w_put0 {v : D} {Q : Unit → Sto → Prop} (hn : S[n]? = some (.lst [x, y, z])) : wp (setC (.c n) (.d (.int 0)) (.d v)) S Q ↔ Q () (S.set n (.lst [v, y, z])) := w_putAt (j := 0) hn rfl
theorem w_put2 {v : D} {Q : Unit → Sto → Prop} (hn : S[n]? = some (.lst [x, y, z])) : wp (setC (.c n) (.d (.int 2)) (.d v)) S Q ↔ Q () (S.set n (.lst [x, y, v])) := w_putAt (j := 2) hn rfl
end
/-! draws -/
def Die (n : Nat) (S : Sto) : Prop := ∃ a b c, S[n]? = some (.lst [.int a, .int b, .int c])
/-- the store but for the die -/
def Drw (n : Nat) (S S' : Sto) : Prop := ∃ a b c, S' = S.set n (.lst [.int a, .int b, .int c])
theorem Drw.refl {n : Nat} {S : Sto} (h : Die n S) : Drw n S S := by
  obtain ⟨a, b, c, h⟩ := h
  refine ⟨a, b, c, ?_⟩
  obtain ⟨hn, e⟩ := List.getElem?_eq_some_iff.mp h
  rw [← e, List.set_getElem_self]
theorem Drw.trans {n : Nat} {S S1 S2 : Sto} (h : Drw n S S1) (k : Drw n S1 S2) : Drw n S S2 := by
  obtain ⟨a, b, c, rfl⟩ := h
  obtain ⟨a', b', c', rfl⟩ := k
  exact ⟨a', b', c', by rw [List.set_set]⟩
theorem Drw.die {n : Nat} {S S1 : Sto} (h : Drw n S S1) (d : Die n S) : Die n S1 := by
  obtain ⟨a, b, c, rfl⟩ := h
  obtain ⟨_, _, _, d⟩ := d
  exact ⟨a, b, c, List.getElem?_set_self (List.getElem?_eq_some_iff.mp d).1⟩
theorem Drw.len {n : Nat} {S S1 : Sto} (h : Drw n S S1) : S1.length = S.length := by
  obtain ⟨a, b, c, rfl⟩ := h
  rw [List.length_set]
theorem Drw.take {n : Nat} {S S1 : Sto} (h : Drw n S S1) : S1.take S.length = S1 := by
  rw [← h.len, List.take_length]
open PySem.PyData in
theorem eqD_str {x y : Str} (hx : strOk x = true) (hy : strOk y = true) : eqD (.str x) (.str y) = some (x == y) := by
  unfold eqD pyOf
  have h1 : SeqAt.shaped (.str x) = true := by
    unfold SeqAt.shaped PyData.canLay0
    rw [hx]
    rfl
  have h2 : SeqAt.shaped (.str y) = true := by
    unfold SeqAt.shaped PyData.canLay0
    rw [hy]
    rfl
  simp only [h1, h2, Bool.and_self, if_true]
  rfl
theorem eqD_int (x y : Int) : eqD (.int x) (.int y) = some (x == y) := rfl
theorem eqD_bl (x y : Bool) : eqD (.bl x) (.bl y) = some (x == y) := rfl
/-- a computation that always gives the same and leaves the store -/
theorem pur_of {α : Type} {p : M α} {a : α} (h : ∀ S, wp p S fun x S' => x = a ∧ S' = S) : p = pur a := by
  funext S
  obtain ⟨x, S', e, rfl, rfl⟩ := h S
  exact e
theorem fn_pure {N : Nat} {s : Env → M Out} {xs : List Vl} {y : D} (h : ∀ S, wp (s (startE N xs)) S fun o S' => o = .rt (.d y) ∧ S' = S) : fnM N s xs = pur (.d y) := fnM_rt (pur_of h)
theorem wp_of {α : Type} {p : M α} {a : α} {S : Sto} {Q : α → Sto → Prop} (e : p = pur a) (q : Q a S) : wp p S Q := by
  rw [e]
  exact wp_pur.mpr q
theorem w_itS {z : Str} {S : Sto} {Q : List D → Sto → Prop} : wp (itS (.d (.str z))) S Q ↔ Q (Dz.signs z) S := wp_pur
theorem w_itL {ds : List D} {S : Sto} {Q : List D → Sto → Prop} : wp (itL (.d (.lst ds))) S Q ↔ Q ds S := wp_pur
theorem w_itLs {ds : List Int} {S : Sto} {Q : List D → Sto → Prop} : wp (itL (.d (.scr ds))) S Q ↔ Q (ds.map D.int) S := wp_pur
theorem w_itT {ds : List D} {S : Sto} {Q : List D → Sto → Prop} : wp (itT (.d (.tup ds))) S Q ↔ Q ds S := wp_pur
theorem w_itR {j : Int} {S : Sto} {Q : List D → Sto → Prop} (h : -(2 ^ 62) ≤ j ∧ j < 2 ^ 62) : wp (itR [.d (.int j)]) S Q ↔ Q (dInts 0 j.toNat) S := by
  show wp (if _ then _ else _) S Q ↔ _
  rw [if_pos h]
  exact wp_pur
theorem dInts_len (lo : Int) (n : Nat) : (dInts lo n).length = n := by
  unfold dInts
  rw [List.length_map, List.length_range]
theorem dInts_get {lo : Int} {n i : Nat} {d : D} (h : (dInts lo n)[i]? = some d) : i < n ∧ d = .int (lo + i) := by
  unfold dInts at h
  rw [List.getElem?_map] at h
  by_cases hi : i < n
  · rw [List.getElem?_range hi] at h
    cases h
    exact ⟨hi, rfl⟩
  · rw [List.getElem?_eq_none (by rw [List.length_range]; omega)] at h
    cases h
theorem boolsOf_map {α : Type} (b : α → Bool) : ∀ l : List α, boolsOf (l.map fun x => .bl (b x)) = some (l.map b)
  | [] => rfl
  | x :: l => by
    show (match boolsOf (l.map fun x => D.bl (b x)) with | some bs => some (b x :: bs) | none => none) = _
    rw [boolsOf_map b l]
    rfl
open PySem.PyData in
theorem strOk_ascii {z : Str} (h : ∀ c ∈ z.cps.toList, c < 128) : strOk z = true := by
  unfold strOk
  rw [Array.all_eq_true']
  intro c hc
  have := h c (by simpa using hc)
  simp
  omega
theorem lcL_map {α : Type} {t : Tgt} {p : Env → M Bool} {f : Env → M Vl} {ρ : Env} {k : α → D} {ρ1 : α → Env} {b : α → Bool} {v : α → D} : ∀ (l : List α), (∀ a ∈ l, gSet t (k a) ρ = pur (ρ1 a) ∧ p (ρ1 a) = pur (b a) ∧ (b a = true → f (ρ1 a) = pur (.d (v a)))) → lcL t p f ρ (l.map k) = pur ((l.filter b).map v)
  | [], _ => rfl
  | a :: l, h => by
    obtain ⟨h1, h2, h3⟩ := h a List.mem_cons_self
    have ih := lcL_map l fun x hx => h x (List.mem_cons_of_mem _ hx)
    rw [List.map_cons]
    unfold lcL
    rw [h1, bnd_ret, h2, bnd_ret]
    cases hb : b a with
    | true =>
      show bnd (f (ρ1 a)) _ = _
      rw [h3 hb, bnd_ret]
      show bnd (lcL t p f ρ (l.map k)) _ = _
      rw [ih, bnd_ret, List.filter_cons, if_pos hb]
      rfl
    | false =>
      show lcL t p f ρ (l.map k) = _
      rw [ih, List.filter_cons, if_neg (by rw [hb]; decide)]
theorem pur_wp {α : Type} {p : M α} {a : α} (h : ∀ S (Q : α → Sto → Prop), Q a S → wp p S Q) : p = pur a := pur_of fun S => h S _ ⟨rfl, rfl⟩
/-! displays -/
def kTup (ds : List D) : M Vl := if ds.length ≤ 100000 then pur (.d (.tup ds)) else stuck
def kLst (ds : List D) : M Vl := if ds.length ≤ 100000 then pur (.d (.lst ds)) else stuck
theorem w_dtup {xs : List Vl} {S : Sto} {Q : Vl → Sto → Prop} : wp (dTup xs) S Q ↔ wp (opt (asDs xs) kTup) S Q := by
  unfold dTup opt
  cases asDs xs <;> exact Iff.rfl
theorem w_dlst {xs : List Vl} {S : Sto} {Q : Vl → Sto → Prop} : wp (dLst xs) S Q ↔ wp (opt (asDs xs) kLst) S Q := by
  unfold dLst opt
  cases asDs xs <;> exact Iff.rfl
theorem asDs_nil : asDs [] = some [] := rfl
theorem asDs_cons {x : D} {r : List Vl} : asDs (.d x :: r) = (asDs r).map (x :: ·) := by
  show (match asDs r with | some ds => some (x :: ds) | none => none) = _
  cases asDs r <;> rfl
theorem w_some {α β : Type} {a : α} {k : α → M β} {S : Sto} {Q : β → Sto → Prop} : wp (opt (some a) k) S Q ↔ wp (k a) S Q := Iff.rfl
theorem w_kTup {ds : List D} {S : Sto} {Q : Vl → Sto → Prop} (h : ds.length ≤ 100000) : wp (kTup ds) S Q ↔ Q (.d (.tup ds)) S := by
  unfold kTup
  rw [if_pos h]
  exact wp_pur
theorem w_kLst {ds : List D} {S : Sto} {Q : Vl → Sto → Prop} (h : ds.length ≤ 100000) : wp (kLst ds) S Q ↔ Q (.d (.lst ds)) S := by
  unfold kLst
  rw [if_pos h]
  exact wp_pur
theorem w_addL {xs ys : List D} {S : Sto} {Q : Vl → Sto → Prop} (h : xs.length + ys.length ≤ 100000) : wp (opAdd (.d (.lst xs)) (.d (.lst ys))) S Q ↔ Q (.d (.lst (xs ++ ys))) S := by
  show wp (if _ then _ else _) S Q ↔ _
  rw [if_pos h]
  exact wp_pur
theorem w_addT {xs ys : List D} {S : Sto} {Q : Vl → Sto → Prop} (h : xs.length + ys.length ≤ 100000) : wp (opAdd (.d (.tup xs)) (.d (.tup ys))) S Q ↔ Q (.d (.tup (xs ++ ys))) S := by
  show wp (if _ then _ else _) S Q ↔ _
  rw [if_pos h]
  exact wp_pur
theorem w_addS {xs ys : Str} {S : Sto} {Q : Vl → Sto → Prop} (h : xs.length + ys.length ≤ 100000) : wp (opAdd (.d (.str xs)) (.d (.str ys))) S Q ↔ Q (.d (.str (xs ++ ys))) S := by
  show wp (if _ then _ else _) S Q ↔ _
  rw [if_pos h]
  exact wp_pur
theorem w_upper {x : Str} {S : Sto} {Q : Vl → Sto → Prop} (h : x.length ≤ 100000) : wp (mUpper (.d (.str x))) S Q ↔ Q (.d (.str (Txt.upper x))) S := by
  show wp (if _ then _ else _) S Q ↔ _
  rw [if_pos h]
  exact wp_pur
theorem w_strI {i : Int} {S : Sto} {Q : Vl → Sto → Prop} (h : i.natAbs.log2 < 1920) : wp (tStr [.d (.int i)]) S Q ↔ Q (.d (.str (toString i))) S := by
  show wp (if _ then _ else _) S Q ↔ _
  rw [if_pos h]
  exact wp_pur
end Dz

/-! Dz8: in, slices, tuple(), list(), sorted, min, zip, downward ranges, dict comprehensions, several names at once. -/
namespace Dz
open PySem PySem.Spec PyProof.Rows L2
/-! ### in -/
def flatD : D → Bool
  | .non => true
  | .bl _ => true
  | .int _ => true
  | .str _ => true
  | _ => false
def eqF : D → D → Bool
  | .non, .non => true
  | .bl a, .bl b => a == b
  | .bl a, .int b => (if a then 1 else 0) == b
  | .int a, .bl b => a == (if b then 1 else 0)
  | .int a, .int b => a == b
  | .str a, .str b => a == b
  | _, _ => false
def keyD : D → Option Key
  | .int i => some (.inl i)
  | .str x => some (.inr x)
  | _ => none
theorem flat_rep {K : Frag} {F : Hp} {d : D} {v : V} (r : Rep K F d v) : flatV v = flatD d := by cases r <;> rfl
theorem eqF_rep {K : Frag} {F : Hp} {d e : D} {v u : V} (r : Rep K F d v) (q : Rep K F e u) : eqV v u = eqF d e := by cases r <;> cases q <;> rfl
theorem flat_all {K : Frag} {F : Hp} : ∀ {ds : List D} {vs : List V}, Reps K F ds vs → vs.all flatV = ds.all flatD
  | _, _, .nil => rfl
  | _, _, .cons r rs => by rw [List.all_cons, List.all_cons, flat_rep r, flat_all rs]
theorem in_rep {K : Frag} {F : Hp} {d : D} {v : V} (q : Rep K F d v) : ∀ {ds : List D} {vs : List V}, Reps K F ds vs → inV v vs = ds.any (eqF · d)
  | _, _, .nil => rfl
  | _, _, .cons r rs => by
    show (eqV _ v || inV v _) = _
    rw [List.any_cons, eqF_rep r q, in_rep q rs]
theorem key_rep {K : Frag} {F : Hp} {d : D} {v : V} {k : Key} (r : Rep K F d v) (h : keyD d = some k) : v = kV k := by
  cases r <;> cases h <;> rfl
def hasK (kvs : List (Key × D)) (k : Key) : Bool := kvs.any fun kv => decide (kv.1 = k)
theorem hasK_rep {K : Frag} {F : Hp} {k : Key} : ∀ {kvs : List (Key × D)} {vs : List (Key × V)}, RepK K F kvs vs → (valV vs k).isSome = hasK kvs k
  | _, _, .nil => rfl
  | _, _, .cons (k := k0) (v := v) (vs := vs) (ds := ds) r rs => by
    by_cases h : k0 = k
    · rw [valV_pos (p := (k0, v)) h]
      show true = (decide (k0 = k) || _)
      rw [decide_eq_true h, Bool.true_or]
    · rw [valV_neg (p := (k0, v)) h, hasK_rep rs]
      show _ = (decide (k0 = k) || hasK ds k)
      rw [decide_eq_false h, Bool.false_or]
def inG (a b : Vl) : M Bool := match a, b with
  | .d (.str x), .d (.str y) => pur (!(Builtin.Str.occurrences y x 0 y.length 1).isEmpty)
  | .d x, .d (.tup ds) => if flatD x && ds.all flatD then pur (ds.any (eqF · x)) else stuck
  | .d x, .d (.lst ds) => if flatD x && ds.all flatD then pur (ds.any (eqF · x)) else stuck
  | .d x, .d (.dct kvs) => opt (keyD x) fun k => pur (hasK kvs k)
  | _, _ => stuck
def cIn2 (a b : Vl) : M Vl := bnd (inG a b) fun k => pur (.d (.bl k))
def cNotIn2 (a b : Vl) : M Vl := bnd (inG a b) fun k => pur (.d (.bl (!k)))
section
variable {X : Cx}
def rDin : R2 := fun y x H Q => ∃ a o, x = .ref a ∧ DGet H a y o ∧ Q (.bl o.isSome) H
def rDnin : R2 := fun y x H Q => ∃ a o, x = .ref a ∧ DGet H a y o ∧ Q (.bl (!o.isSome)) H
theorem op_din (hu : X.A.units + 1 < cLine) : OpR X (compareOp .In) rDin := by
  intro pins s σ H y x v u Q I ry rx h
  obtain ⟨a, o, rfl, g, q⟩ := h
  cases rx
  exact d_in hu I g ry fun s3 I3 => ⟨.bl _, H, I3, rfl, q⟩
theorem op_dnin (hu : X.A.units + 1 < cLine) : OpR X (compareOp .NotIn) rDnin := by
  intro pins s σ H y x v u Q I ry rx h
  obtain ⟨a, o, rfl, g, q⟩ := h
  cases rx
  exact d_notIn hu I g ry fun s3 I3 => ⟨.bl _, H, I3, rfl, q⟩
theorem inG_of {K : Frag} {F G H : Hp} {m : List Addr} {S : Sto} {a b : Vl} {x y : V} {g : Bool → Bool} {Q : VK} (w : Wd K F m G S H) (ra : RepV K F m a x) (rb : RepV K F m b y) (z : res K Er (rV K) F m G (bnd (inG a b) (fun k => pur (.d (.bl (g k)))) S) Q) :
    (∃ i j, x = .str i ∧ y = .str j ∧ Q (.bl (g (!(Builtin.Str.occurrences j i 0 j.length 1).isEmpty))) H) ∨
    (∃ p xs, y = .ref p ∧ (SqL K H p xs ∨ SqT K H p xs) ∧ flatV x = true ∧ xs.all flatV = true ∧ Q (.bl (g (inV x xs))) H) ∨
    (∃ p o, y = .ref p ∧ DGet H p x o ∧ Q (.bl (g o.isSome)) H) := by
  unfold inG at z
  split at z
  · cases ra; cases rb
    exact .inl ⟨_, _, rfl, rfl, res_ok w (.bl _) z⟩
  · rename_i x0 ds
    cases rb with
    | tup hb rs =>
    by_cases hf : (flatD x0 && ds.all flatD) = true
    · rw [if_pos hf] at z
      rw [Bool.and_eq_true] at hf
      refine .inr (.inl ⟨_, _, rfl, .inr (sqT_mono w.sub hb), by rw [flat_rep ra]; exact hf.1, by rw [flat_all rs]; exact hf.2, ?_⟩)
      rw [in_rep ra rs]
      exact res_ok w (.bl _) z
    · rw [if_neg hf] at z; exact z.elim
  · rename_i x0 ds
    cases rb with
    | lst hb rs =>
    by_cases hf : (flatD x0 && ds.all flatD) = true
    · rw [if_pos hf] at z
      rw [Bool.and_eq_true] at hf
      refine .inr (.inl ⟨_, _, rfl, .inl (w.sub.seq (SqL.of hb)), by rw [flat_rep ra]; exact hf.1, by rw [flat_all rs]; exact hf.2, ?_⟩)
      rw [in_rep ra rs]
      exact res_ok w (.bl _) z
    · rw [if_neg hf] at z; exact z.elim
  · rename_i x0 kvs
    cases rb with
    | dct hb rs =>
    unfold bnd opt at z
    cases hk : keyD x0 with
    | none => rw [hk] at z; exact z.elim
    | some k =>
      rw [hk] at z
      have e := key_rep ra hk
      subst e
      refine .inr (.inr ⟨_, _, rfl, DGet.k (w.sub _ _ hb), ?_⟩)
      rw [hasK_rep rs]
      exact res_ok w (.bl _) z
  · exact z.elim
theorem om_in2 (hu : X.A.units + 64 < cLine) : OpM X Er (compareOp .In) cIn2 := opM_of (op_in_str.or (op_in_seq.or (op_din (by omega)))) fun F m G S H a b x y Q w ra rb z => by
  rcases inG_of (g := fun k => k) w ra rb z with h | ⟨p, xs, h1, h2, h3, h4, h5⟩ | h
  · exact .inl h
  · exact .inr (.inl ⟨p, xs, h1, h2, h3, h4, h5⟩)
  · exact .inr (.inr h)
theorem om_notin2 (hu : X.A.units + 64 < cLine) : OpM X Er (compareOp .NotIn) cNotIn2 := opM_of (op_notin_str.or (op_notIn_seq.or (op_dnin (by omega)))) fun F m G S H a b x y Q w ra rb z => by
  rcases inG_of (g := fun k => !k) w ra rb z with h | ⟨p, xs, h1, h2, h3, h4, h5⟩ | h
  · exact .inl h
  · exact .inr (.inl ⟨p, xs, h1, h2, h3, h4, h5⟩)
  · exact .inr (.inr h)

/-! ### slices -/
def cut {α : Type} (xs : List α) (lo hi : Option Int) : List α := (xs.drop (HT.sIx xs.length 0 lo)).take (HT.sIx xs.length xs.length hi - HT.sIx xs.length 0 lo)
theorem cut_rep {K : Frag} {F : Hp} {ds : List D} {vs : List V} (r : Reps K F ds vs) (lo hi : Option Int) : Reps K F (cut ds lo hi) (cutV vs lo hi) := by
  unfold cut cutV
  rw [r.length]
  exact (r.drop _).take _
theorem cut_len {α : Type} (xs : List α) (lo hi : Option Int) : (cut xs lo hi).length ≤ xs.length := by
  unfold cut
  rw [List.length_take, List.length_drop]
  omega
theorem cut_whole {α : Type} (xs : List α) (lo hi : Option Int) (h : HT.sIx xs.length 0 lo = 0 ∧ HT.sIx xs.length xs.length hi = xs.length) : cut xs lo hi = xs := by
  unfold cut
  rw [h.1, h.2, List.drop_zero, Nat.sub_zero, List.take_length]
def sl (x : Vl) (lo hi : Option Int) : M Vl := match x with
  | .d (.lst ds) => pur (.d (.lst (cut ds lo hi)))
  | .d (.tup ds) => pur (.d (.tup (cut ds lo hi)))
  | .c n => bnd (getC n) fun ds => pur (.d (.lst (cut ds lo hi)))
  | .d (.str z) => if z.length ≤ 100000 then pur (.d (.str (cutS z lo hi))) else stuck
  | _ => stuck
/-- a part of a slice -/
def oNone : Env → M (Option Int) := fun _ => pur none
def asI (x : Vl) : M (Option Int) := match x with
  | .d (.int i) => pur (some i)
  | _ => stuck
def oSome (f : Env → M Vl) : Env → M (Option Int) := fun ρ => bnd (f ρ) asI
abbrev MO (X : Cx) (Er : ErT) (e : Option Expr) (f : Env → M (Option Int)) : Prop := PO X e (rd X.K Er (fun _ _ a b => a = b) f)
theorem PO.imp {X : Cx} {e : Option Expr} {t t' : TO} (h : PO X e t) (i : ∀ σ H Q, t' σ H Q → t σ H Q) : PO X e t' := ⟨fun pins s σ H Q I q => h.run pins s σ H Q I (i σ H Q q)⟩
theorem mo_none : MO X Er none oNone := PO.imp po_none fun σ H Q ⟨F, m, G, S, ρ, w, r, z⟩ => res_ok (A := fun _ _ a b => a = b) w rfl z
theorem mo_some {e : Expr} {f : Env → M Vl} (h : ME X Er e f) : MO X Er (some e) (oSome f) := PO.imp (po_some h) fun σ H Q ⟨F, m, G, S, ρ, w, r, z⟩ => by
  refine rd_mono (rd_bnd (A := rV X.K) w r z) fun x H1 ⟨F1, m1, S1, a1, e1, w1, r1, ra, q1⟩ => ?_
  unfold asI at q1
  split at q1
  · cases ra
    exact ⟨_, rfl, res_ok (A := fun _ _ a b => a = b) w1 rfl q1⟩
  · exact q1.elim
theorem SlR.or {X : Cx} {r r' : V → Option Int → Option Int → Hp → VK → Prop} (h : SlR X r) (h' : SlR X r') : SlR X (fun x l u H Q => r x l u H Q ∨ r' x l u H Q) := fun pins s σ H x v vl vu lo hi sl Q I rx hs pl pu q =>
  q.elim (h pins s σ H x v vl vu lo hi sl Q I rx hs pl pu) (h' pins s σ H x v vl vu lo hi sl Q I rx hs pl pu)
def eSl (f : Env → M Vl) (l u : Env → M (Option Int)) : Env → M Vl := fun ρ => bnd (f ρ) fun x => bnd (l ρ) fun lo => bnd (u ρ) fun hi => sl x lo hi
theorem me_sl {e : Expr} {lo hi : Option Expr} {p2 pos : Pos} {f : Env → M Vl} {l u : Env → M (Option Int)} (he : ME X Er e f) (hl : MO X Er lo l) (hu : MO X Er hi u) : ME X Er (.Subscript e (.Slice lo hi none p2) pos) (eSl f l u) :=
  PE.imp (pe_slice (SlR.or sl_list (SlR.or sl_tupA sl_str)) he hl hu) fun σ H Q ⟨F, m, G, S, ρ, w, r, z⟩ => by
  refine rd_mono (rd_bnd (A := rV X.K) w r z) fun x H1 ⟨F1, m1, S1, a1, e1, w1, r1, ra, q1⟩ => ?_
  refine rd_mono (rd_bnd (A := fun _ _ a b => a = b) w1 r1 q1) fun lo H2 ⟨F2, m2, S2, lo', e2, w2, r2, rl, q2⟩ => ?_
  refine rd_mono (rd_bnd (A := fun _ _ a b => a = b) w2 r2 q2) fun hi H3 ⟨F3, m3, S3, hi', e3, w3, r3, rh, q3⟩ => ?_
  subst rl rh
  have ra := ra.mono (e2.trans e3)
  unfold sl at q3
  split at q3
  · cases ra with
    | lst ha rs =>
    refine .inl ⟨_, _, rfl, w3.sub.seq (SqL.of ha), fun p hp => ?_⟩
    exact q3 _ m3 _ _ (Ext.lay (w3.fresh hp)) (w3.lay hp _) (.lst upd_same ((cut_rep rs _ _).mono (same_upd (w3.fresh hp))))
  · cases ra with
    | tup ha rs =>
    refine .inr (.inl ⟨_, _, rfl, sqT_mono w3.sub ha, fun hw => ?_, fun _ p hp => ?_⟩)
    · rw [← rs.length] at hw
      rw [cut_whole _ _ _ hw] at q3
      exact res_ok w3 (.tup ha rs) q3
    · exact q3 _ m3 _ _ (Ext.lay (w3.fresh hp)) (w3.lay hp _) (.tup (.inl (.inl upd_same)) ((cut_rep rs _ _).mono (same_upd (w3.fresh hp))))
  · obtain ⟨a, xs, vs, rfl, hm, hS, ho, rs, z⟩ := res_getC w3 ra q3
    refine .inl ⟨_, _, rfl, SqL.of ho, fun p hp => ?_⟩
    exact z _ m3 _ _ (Ext.lay (w3.fresh hp)) (w3.lay hp _) (.lst upd_same ((cut_rep rs _ _).mono (same_upd (w3.fresh hp))))
  · cases ra
    split at q3
    · rename_i hl
      exact .inr (.inr ⟨_, rfl, sz5 hl, res_ok w3 (.str _) q3⟩)
    · exact q3.elim
  · exact q3.elim

/-! ### tuple(x), list(x), sorted(x), min, max -/
theorem CallR.or {f : Value} {r r' : List V → Hp → VK → Prop} (h : CallR X f r) (h' : CallR X f r') : CallR X f (fun xs H Q => r xs H Q ∨ r' xs H Q) := fun pins s σ H xs us Q I rx q =>
  q.elim (h pins s σ H xs us Q I rx) (h' pins s σ H xs us Q I rx)
def tTuple (xs : List Vl) : M Vl := match xs with
  | [.d (.lst ds)] => pur (.d (.tup ds))
  | [.d (.tup ds)] => pur (.d (.tup ds))
  | [.c n] => bnd (getC n) fun ds => pur (.d (.tup ds))
  | _ => stuck
theorem cm_tuple : CallM X Er (.type "tuple") tTuple := callM_of call_tuple_of fun F m G S H xs vs Q w rs z => by
  unfold tTuple at z
  split at z
  · cases rs with
    | cons r1 r2 =>
    cases r2
    cases r1 with
    | lst ha r =>
    refine ⟨_, _, rfl, .inl ⟨w.sub.seq (SqL.of ha), fun p hp => ?_⟩⟩
    exact z _ m _ _ (Ext.lay (w.fresh hp)) (w.lay hp _) (.tup (.inl (.inl upd_same)) (r.mono (same_upd (w.fresh hp))))
  · cases rs with
    | cons r1 r2 =>
    cases r2
    cases r1 with
    | tup ha r => exact ⟨_, _, rfl, .inr ⟨sqT_mono w.sub ha, res_ok w (.tup ha r) z⟩⟩
  · cases rs with
    | cons r1 r2 =>
    cases r2
    obtain ⟨a, xs, vs, rfl, hm, hS, ho, r, z⟩ := res_getC w r1 z
    refine ⟨_, _, rfl, .inl ⟨SqL.of ho, fun p hp => ?_⟩⟩
    exact z _ m _ _ (Ext.lay (w.fresh hp)) (w.lay hp _) (.tup (.inl (.inl upd_same)) (r.mono (same_upd (w.fresh hp))))
  · exact z.elim
/-- the items of a list or a tuple -/
def seqOf (x : Vl) : M (List D) := match x with
  | .d (.lst ds) => pur ds
  | .d (.tup ds) => pur ds
  | .c n => getC n
  | _ => stuck
def tList (xs : List Vl) : M (List D) := match xs with
  | [x] => seqOf x
  | _ => stuck
/-- a new list of a call of one built-in -/
def RCN (K : Frag) (Er : ErT) (g : List Vl → M (List D)) : List V → Hp → VK → Prop := fun vs H Q => ∃ F m G S xs, Wd K F m G S H ∧ RepVs K F m xs vs ∧ match g xs S with
  | .ok ds S' => ∀ (F' : Hp) (m' : List Addr) (H' : Hp) (p : Addr) (us : List V), Ext F F' m m' → Wd K F' m' (upd G p (.lst us)) S' H' → G p = none → Reps K F' ds us → Q (.ref p) H'
  | .err x S' => ∀ (F' : Hp) (m' : List Addr) (H' : Hp), Ext F F' m m' → Wd K F' m' G S' H' → Er x F' H'
  | .no => False
def nCB (g : List Vl → M (List D)) (fs : Env → M (List Vl)) : Env → M (List D) := fun ρ => bnd (fs ρ) g
theorem tNew_cb {K : Frag} {g : List Vl → M (List D)} {fs : Env → M (List Vl)} {σ : L2.St} {H : Hp} {Q : VK} (h : tNew K Er (nCB g fs) σ H Q) : tCB (RCN K Er g) (tA K Er fs) σ H Q := by
  obtain ⟨F, m, G, S, ρ, w, r, z⟩ := h
  refine ⟨F, m, G, S, ρ, w, r, ?_⟩
  unfold nCB bnd at z
  cases q : fs ρ S with
  | err => rw [q] at z; exact z
  | no => rw [q] at z; exact z
  | ok xs S1 =>
    rw [q] at z
    intro F1 m1 H1 vs e1 w1 ra
    refine ⟨F1, m1, G, S1, xs, w1, ra, ?_⟩
    simp only [] at z
    cases q2 : g xs S1 with
    | err => rw [q2] at z; exact fun F' m' H' e => z F' m' H' (e1.trans e)
    | no => rw [q2] at z; exact z
    | ok ds S2 =>
      rw [q2] at z
      exact fun F' m' H' p us e => z F' m' H' p us (e1.trans e)
theorem seqOf_err {x : Vl} {S S' : Sto} {e : Exn} (h : seqOf x S = .err e S') : False := by
  unfold seqOf at h
  split at h
  · cases h
  · cases h
  · unfold getC at h
    split at h <;> cases h
  · cases h
theorem seqOf_rep {K : Frag} {F G H : Hp} {m : List Addr} {S S' : Sto} {x : Vl} {v : V} {ds : List D} (w : Wd K F m G S H) (r : RepV K F m x v) (h : seqOf x S = .ok ds S') : S' = S ∧ ∃ a vs, v = .ref a ∧ (SqL K H a vs ∨ SqT K H a vs) ∧ Reps K F ds vs := by
  unfold seqOf at h
  split at h
  · cases h
    cases r with
    | lst ha rs => exact ⟨rfl, _, _, rfl, .inl (w.sub.seq (SqL.of ha)), rs⟩
  · cases h
    cases r with
    | tup ha rs => exact ⟨rfl, _, _, rfl, .inr (sqT_mono w.sub ha), rs⟩
  · rename_i n
    obtain ⟨a, hm, rfl⟩ := r
    unfold getC at h
    split at h
    · rename_i xs q
      cases h
      obtain ⟨o, ho, rr⟩ := w.cells n a _ hm q
      cases rr with
      | lst rs => exact ⟨rfl, _, _, rfl, .inl (SqL.of ho), rs⟩
    · cases h
  · cases h
theorem cn_list : CallR X (.type "list") (RCN X.K Er tList) := fun pins s σ H vs us Q I rx ⟨F, m, G, S, xs, w, ra, z⟩ => call_list_of pins s σ H vs us Q I rx (by
  rcases xs with _ | ⟨x, _ | ⟨y, l⟩⟩
  · exact z.elim
  · cases ra with
    | cons r1 r2 =>
    cases r2
    unfold tList at z
    simp only [] at z
    cases q : seqOf x S with
    | err => exact (seqOf_err q).elim
    | no => rw [q] at z; exact z.elim
    | ok ds S1 =>
      rw [q] at z
      obtain ⟨rfl, a, ws, rfl, hs, rs⟩ := seqOf_rep w r1 q
      refine ⟨a, ws, rfl, hs, fun p hp => ?_⟩
      exact z F m _ p ws (Ext.refl _ _) (w.push hp _) (w.gfresh hp) rs
  · exact z.elim)
theorem mn_callTy {x : Str} {T : String} {p pos : Pos} {e : Expr} {es : List Expr} {fs : Env → M (List Vl)} {g : List Vl → M (List D)} (hc : CallR X (.type T) (RCN X.K Er g)) (hg : Gl X x) (hm : X.mg x = none) (hv : bootBuiltins x = some (.type T)) (ha : MA X Er (e :: es) fs) (hn : x ≠ "__name__" := by decide) (hdb : (x == ("__debug__" : Str)) = false := by decide)
    (he : Args1 X e es := by rfl) (hpl : NoStar X es pos := by rfl) : MN X Er (.Call (.Name x p) (e :: es) [] pos) (nCB g fs) :=
  PE.imp (pe_callTy hc hg hm hv ha hn hdb he hpl) fun _ _ _ => tNew_cb
theorem mn_callB {x : Str} {id : String} {p pos : Pos} {e : Expr} {es : List Expr} {fs : Env → M (List Vl)} {g : List Vl → M (List D)} (hc : CallR X (.builtin id) (RCN X.K Er g)) (hg : Gl X x) (hm : X.mg x = none) (hv : bootBuiltins x = some (.builtin id)) (ha : MA X Er (e :: es) fs) (hn : x ≠ "__name__" := by decide) (hdb : (x == ("__debug__" : Str)) = false := by decide)
    (he : Args1 X e es := by rfl) (hpl : NoStar X es pos := by rfl) : MN X Er (.Call (.Name x p) (e :: es) [] pos) (nCB g fs) :=
  PE.imp (pe_callB hc hg hm hv ha hn hdb he hpl) fun _ _ _ => tNew_cb
/-- ints -/
def intsOf : List D → Option (List Int)
  | [] => some []
  | .int i :: r => (intsOf r).map (i :: ·)
  | _ :: _ => none
theorem intsOf_eq : ∀ {ds : List D} {ns : List Int}, intsOf ds = some ns → ds = ns.map D.int
  | [], _, h => by cases h; rfl
  | d :: ds, ns, h => by
    cases d with
    | int i =>
      unfold intsOf at h
      cases q : intsOf ds with
      | none => rw [q] at h; cases h
      | some l => rw [q] at h; cases h; rw [intsOf_eq q]; rfl
    | _ => cases h
theorem intsOf_map : ∀ ns : List Int, intsOf (ns.map D.int) = some ns
  | [] => rfl
  | n :: ns => by
    show (intsOf (ns.map D.int)).map (n :: ·) = _
    rw [intsOf_map ns]
    rfl
theorem reps_ints_eq {K : Frag} {F : Hp} : ∀ {ns : List Int} {vs : List V}, Reps K F (ns.map D.int) vs → vs = ns.map V.int
  | [], _, .nil => rfl
  | n :: ns, _, .cons r rs => by
    cases r
    rw [reps_ints_eq rs]
    rfl
def srt (ns : List Int) : List Int := ns.mergeSort (fun a b => decide (a ≤ b))
theorem srt_perm (ns : List Int) : (srt ns).Perm ns := List.mergeSort_perm _ _
theorem srt_pw (ns : List Int) : (srt ns).Pairwise (· ≤ ·) := by
  have h := List.pairwise_mergeSort (le := fun a b : Int => decide (a ≤ b)) (fun a b c h1 h2 => by simp at *; omega) (fun a b => by simp; omega) ns
  exact h.imp fun h => of_decide_eq_true h
theorem srt_uniq {ns ns' : List Int} (h1 : ns'.Perm ns) (h2 : ns'.Pairwise (· ≤ ·)) : ns' = srt ns :=
  (h1.trans (srt_perm ns).symm).eq_of_pairwise (fun a b _ _ h1 h2 => Int.le_antisymm h1 h2) h2 (srt_pw ns)
def bSorted (xs : List Vl) : M (List D) := match xs with
  | [x] => bnd (seqOf x) fun ds => match x, intsOf ds with
    | .d (.lst _), some ns => pur ((srt ns).map D.int)
    | .c _, some ns => pur ((srt ns).map D.int)
    | _, _ => stuck
  | _ => stuck
theorem cn_sorted : CallR X (.builtin "sorted") (RCN X.K Er bSorted) := fun pins s σ H vs us Q I rx ⟨F, m, G, S, xs, w, ra, z⟩ => cr_sortedI pins s σ H vs us Q I rx (by
  rcases xs with _ | ⟨x, _ | ⟨y, l⟩⟩
  · exact z.elim
  · cases ra with
    | cons r1 r2 =>
    cases r2
    unfold bSorted bnd at z
    simp only [] at z
    cases q : seqOf x S with
    | err => exact (seqOf_err q).elim
    | no => rw [q] at z; exact z.elim
    | ok ds S1 =>
      rw [q] at z
      simp only [] at z
      obtain ⟨rfl, a, ws, rfl, hs, rs⟩ := seqOf_rep w r1 q
      cases qi : intsOf ds with
      | none =>
        rw [qi] at z
        cases x with
        | d x => cases x <;> exact z.elim
        | c n => exact z.elim
      | some ns =>
        rw [qi] at z
        have e := intsOf_eq qi
        subst e
        have e2 := reps_ints_eq rs
        subst e2
        have hL : SqL X.K H a (ns.map V.int) := by
          cases x with
          | d x =>
            cases x with
            | lst ds =>
              cases r1 with
              | lst ha r =>
                have e3 : ds = ns.map D.int := by cases q; rfl
                subst e3
                have e4 := reps_ints_eq r
                subst e4
                exact w.sub.seq (SqL.of ha)
            | _ => exact z.elim
          | c n =>
            obtain ⟨b, hm, hb⟩ := r1
            cases hb
            have q : getC n S1 = .ok (ns.map D.int) S1 := q
            unfold getC at q
            split at q
            · rename_i xs hx
              cases q
              obtain ⟨o, ho, rr⟩ := w.cells n a _ hm hx
              cases rr with
              | lst r =>
                have e4 := reps_ints_eq r
                subst e4
                exact SqL.of ho
            · cases q
        refine ⟨a, ns, rfl, hL, fun ns' p h1 h2 hp => ?_⟩
        rw [srt_uniq h1 h2]
        have z : ∀ (F' : Hp) (m' : List Addr) (H' : Hp) (p : Addr) (us : List V), Ext F F' m m' → Wd X.K F' m' (upd G p (.lst us)) S1 H' → G p = none → Reps X.K F' ((srt ns).map D.int) us → Q (.ref p) H' := by
          cases x with
          | d x =>
            cases x with
            | lst ds => exact z
            | _ => exact z.elim
          | c n => exact z
        exact z F m _ p _ (Ext.refl _ _) (w.push hp _) (w.gfresh hp) (reps_ints _ _ _)
  · exact z.elim)
end
end Dz

/-! Dz9: min of a list, zip, downward ranges, dict comprehensions, two names at once, what is never come to. -/
namespace Dz
open PySem PySem.Spec PyProof.Rows L2
section
variable {X : Cx} {tg : Expr} {pos : Pos}
/-! ### min -/
def bMinL : List Vl → M Vl := fun xs => match xs with
  | [.d (.int i), .d (.int j)] => pur (.d (.int (if j < i then j else i)))
  | [.d (.lst ds)] => opt (intsOf ds) fun ns => opt ns.min? fun k => pur (.d (.int k))
  | _ => stuck
theorem min_uniq {ns : List Int} {k m : Int} (h : ns.min? = some k) (h1 : m ∈ ns) (h2 : ∀ y, y ∈ ns → m ≤ y) : m = k := by
  rw [List.min?_eq_some_iff] at h
  exact Int.le_antisymm (h2 k h.1) (h.2 m h1)
theorem cm_minL (hc : X.calm = true) : CallM X Er (.builtin "min") bMinL := callM_of ((call_min2 hc).or (cr_min hc)) fun F m G S H xs vs Q w rs z => by
  unfold bMinL at z
  split at z
  · cases rs with
    | cons r1 r2 =>
    cases r2 with
    | cons r2 r3 =>
    cases r3
    cases r1
    cases r2
    exact .inl ⟨_, _, rfl, res_ok w (.int _) z⟩
  · rename_i ds
    cases rs with
    | cons r1 r2 =>
    cases r2
    cases r1 with
    | lst ha r =>
    cases qi : intsOf ds with
    | none => rw [qi] at z; exact z.elim
    | some ns =>
      rw [qi] at z
      have e := intsOf_eq qi
      subst e
      have e2 := reps_ints_eq r
      subst e2
      cases qm : ns.min? with
      | none => unfold opt at z; simp only [] at z; rw [qm] at z; exact z.elim
      | some k =>
        unfold opt at z; simp only [] at z; rw [qm] at z
        refine .inr ⟨_, ns, rfl, w.sub.seq (SqL.of ha), ?_, fun m h1 h2 => ?_⟩
        · cases ns with
          | nil => cases qm
          | cons => simp
        · rw [min_uniq qm h1 h2]
          exact res_ok w (.int _) z
  · exact z.elim
/-! ### zip -/
def zipD (a b : List D) : List D := (a.zip b).map fun p => D.tup [p.1, p.2]
def itZ (xs : List Vl) : M (List D) := match xs with
  | [.d (.lst a), .d (.lst b)] => pur (zipD a b)
  | [.d (.tup a), .d (.tup b)] => pur (zipD a b)
  | _ => stuck
theorem zipD_len (a b : List D) : (zipD a b).length = min a.length b.length := by
  unfold zipD
  rw [List.length_map, List.length_zip]
theorem zipD_get {a b : List D} {i : Nat} {x y : D} (h1 : a[i]? = some x) (h2 : b[i]? = some y) : (zipD a b)[i]? = some (.tup [x, y]) := by
  unfold zipD
  rw [List.getElem?_map, List.getElem?_zip_eq_some (z := (x, y)) |>.mpr ⟨h1, h2⟩]
  rfl
theorem zip_walk {K : Frag} {F : Hp} {p q : Addr} {vs us : List V} {a b : List D} (h1 : SqL K F p vs) (h2 : SqL K F q us) (r1 : Reps K F a vs) (r2 : Reps K F b us) : Walk K F (Itz K p q) (zipD a b) where
  go := fun i H s hi => by
    rw [zipD_len] at hi
    obtain ⟨v, hv, _⟩ := r1.get (i := i) (d := a[i]'(by omega)) (List.getElem?_eq_getElem _)
    obtain ⟨u, hu, _⟩ := r2.get (i := i) (d := b[i]'(by omega)) (List.getElem?_eq_getElem _)
    exact ⟨vs, us, v, u, s.seq h1, s.seq h2, hv, hu⟩
  yld := fun i H x H' s hi y => by
    obtain ⟨T, x1, y1, rfl, hT, rfl, g1, g2⟩ := y
    obtain ⟨d1, e1, q1⟩ := r1.get' (g1 vs (s.seq h1))
    obtain ⟨d2, e2, q2⟩ := r2.get' (g2 us (s.seq h2))
    refine ⟨_, zipD_get e1 e2, .inr ⟨T, _, hT, rfl, ?_⟩⟩
    have hF : F T = none := by
      cases z : F T with
      | none => rfl
      | some o => rw [s _ _ z] at hT; cases hT
    exact .tup (.inl (.inl upd_same)) (.cons (q1.mono (same_upd hF)) (.cons (q2.mono (same_upd hF)) .nil))
  stop := fun i H s hi => by
    rw [zipD_len] at hi
    refine ⟨vs, us, s.seq h1, s.seq h2, ?_⟩
    rw [← r1.length, ← r2.length]
    omega
theorem zip_walkT {K : Frag} {F : Hp} {p q : Addr} {vs us : List V} {a b : List D} (h1 : SqT K F p vs) (h2 : SqT K F q us) (r1 : Reps K F a vs) (r2 : Reps K F b us) : Walk K F (RZ.ItzT K p q) (zipD a b) where
  go := fun i H s hi => by
    rw [zipD_len] at hi
    obtain ⟨v, hv, _⟩ := r1.get (i := i) (d := a[i]'(by omega)) (List.getElem?_eq_getElem _)
    obtain ⟨u, hu, _⟩ := r2.get (i := i) (d := b[i]'(by omega)) (List.getElem?_eq_getElem _)
    exact ⟨vs, us, v, u, sqT_mono s h1, sqT_mono s h2, hv, hu⟩
  yld := fun i H x H' s hi y => by
    obtain ⟨T, x1, y1, rfl, hT, rfl, g1, g2⟩ := y
    obtain ⟨d1, e1, q1⟩ := r1.get' (g1 vs (sqT_mono s h1))
    obtain ⟨d2, e2, q2⟩ := r2.get' (g2 us (sqT_mono s h2))
    refine ⟨_, zipD_get e1 e2, .inr ⟨T, _, hT, rfl, ?_⟩⟩
    have hF : F T = none := by
      cases z : F T with
      | none => rfl
      | some o => rw [s _ _ z] at hT; cases hT
    exact .tup (.inl (.inl upd_same)) (.cons (q1.mono (same_upd hF)) (.cons (q2.mono (same_upd hF)) .nil))
  stop := fun i H s hi => by
    rw [zipD_len] at hi
    refine ⟨vs, us, sqT_mono s h1, sqT_mono s h2, ?_⟩
    rw [← r1.length, ← r2.length]
    omega
def iZp (fs : Env → M (List Vl)) : Env → M (List D) := fun ρ => bnd (fs ρ) itZ
abbrev rW (K : Frag) : Hp → List Addr → List D → It → Prop := fun F m ds J => Walk K F J ds
theorem mi_zip {e e2 : Expr} {fs : Env → M (List Vl)} {p tpos : Pos} {elts : List Expr} {kk : Nat} (hg : Gl X "zip") (hm : X.mg "zip" = none) (ha : MA X Er [e, e2] fs)
    (hs : starEach [e, e2] X.env = (false, eval e X.env) :: starEach [e2] X.env := by rfl) (hpl : (backTo pos (starEach [e2] X.env)).any (·.1) = false := by rfl) :
    MI X Er (.Tuple elts kk tpos) (.Call (.Name "zip" p) [e, e2] [] pos) (iZp fs) := PI.imp (RZ.pi_zipA hg hm ha hs hpl) fun σ H Rr ⟨F, m, G, S, ρ, w, r, z⟩ => by
  refine rd_mono (rd_bnd (A := rVs X.K) (B := rW X.K) w r z) fun vs H1 ⟨F1, m1, S1, xs, e1, w1, r1, ra, q1⟩ => ?_
  unfold itZ at q1
  split at q1
  · cases ra with
    | cons r1 r2 =>
    cases r2 with
    | cons r2 r3 =>
    cases r3
    cases r1 with
    | lst h1 t1 =>
    cases r2 with
    | lst h2 t2 => exact ⟨_, _, _, _, rfl, .inl ⟨w1.sub.seq (SqL.of h1), w1.sub.seq (SqL.of h2), res_ok (A := rW X.K) w1 (zip_walk (SqL.of h1) (SqL.of h2) t1 t2) q1⟩⟩
  · cases ra with
    | cons r1 r2 =>
    cases r2 with
    | cons r2 r3 =>
    cases r3
    cases r1 with
    | tup h1 t1 =>
    cases r2 with
    | tup h2 t2 => exact ⟨_, _, _, _, rfl, .inr ⟨sqT_mono w1.sub h1, sqT_mono w1.sub h2, res_ok (A := rW X.K) w1 (zip_walkT h1 h2 t1 t2) q1⟩⟩
  · exact q1.elim
/-! ### range(i, j, -1) -/
def dDown (lo : Int) (n : Nat) : List D := (List.range n).map fun (i : Nat) => D.int (lo - (i : Int))
def itR3 (xs : List Vl) : M (List D) := match xs with
  | [.d (.int i), .d (.int j), .d (.int c)] => if ((-(2 ^ 62) ≤ i ∧ i < 2 ^ 62) ∧ -(2 ^ 62) ≤ j ∧ j < 2 ^ 62) ∧ c = -1 then pur (dDown i (i - j).toNat) else stuck
  | _ => stuck
def iRg3 (fs : Env → M (List Vl)) : Env → M (List D) := fun ρ => bnd (fs ρ) itR3
theorem down_walk {K : Frag} {F : Hp} (lo : Int) (n : Nat) : Walk K F (Itc lo (-1) n) (dDown lo n) where
  go := fun i H s hi => by
    unfold dDown at hi
    rw [List.length_map, List.length_range] at hi
    exact hi
  yld := fun i H x H' s hi y => by
    obtain ⟨rfl, rfl⟩ := y
    unfold dDown at hi ⊢
    rw [List.length_map, List.length_range] at hi
    refine ⟨.int (lo - (i : Int)), ?_, .inl ⟨rfl, ?_⟩⟩
    · rw [List.getElem?_map, List.getElem?_range hi]
      rfl
    · have e : lo + (i : Nat) * (-1) = lo - (i : Int) := by omega
      rw [e]
      exact .int _
  stop := fun i H s hi => by
    unfold dDown at hi
    rw [List.length_map, List.length_range] at hi
    exact hi
theorem mi_range3 {a b c : Expr} {fs : Env → M (List Vl)} {p : Pos} (hg : Gl X "range") (hm : X.mg "range" = none) (ha : MA X Er [a, b, c] fs)
    (hs : starEach [a, b, c] X.env = (false, eval a X.env) :: starEach [b, c] X.env := by rfl) (hpl : (backTo pos (starEach [b, c] X.env)).any (·.1) = false := by rfl) :
    MI X Er tg (.Call (.Name "range" p) [a, b, c] [] pos) (iRg3 fs) := PI.imp (pi_range3 hg hm ha hs hpl) fun σ H Rr ⟨F, m, G, S, ρ, w, r, z⟩ => by
  refine rd_mono (rd_bnd (A := rVs X.K) (B := rW X.K) w r z) fun vs H1 ⟨F1, m1, S1, xs, e1, w1, r1, ra, q1⟩ => ?_
  unfold itR3 at q1
  split at q1
  · cases ra with
    | cons r1 r2 =>
    cases r2 with
    | cons r2 r3 =>
    cases r3 with
    | cons r3 r4 =>
    cases r4
    cases r1
    cases r2
    cases r3
    split at q1
    · rename_i hj
      obtain ⟨⟨⟨a1, a2⟩, b1, b2⟩, rfl⟩ := hj
      exact ⟨_, _, _, _, rfl, RgC.neg a1 a2 b1 b2, res_ok (A := rW X.K) w1 (down_walk _ _) q1⟩
    · exact q1.elim
  · exact q1.elim
end
/-! ### dict comprehensions -/
def putD (kvs : List (Key × D)) (k : Key) (d : D) : List (Key × D) := if (kvs.any fun kv => decide (kv.1 = k)) = true then kvs.map (fun kv => if kv.1 = k then (kv.1, d) else kv) else kvs ++ [(k, d)]
theorem RepK.anyk {K : Frag} {F : Hp} {k : Key} : ∀ {kvs : List (Key × D)} {vs : List (Key × V)}, RepK K F kvs vs → (vs.any fun kv => decide (kv.1 = k)) = (kvs.any fun kv => decide (kv.1 = k))
  | _, _, .nil => rfl
  | _, _, .cons r rs => by rw [List.any_cons, List.any_cons, RepK.anyk rs]
theorem RepK.mapk {K : Frag} {F : Hp} {k : Key} {d : D} {v : V} (q : Rep K F d v) : ∀ {kvs : List (Key × D)} {vs : List (Key × V)}, RepK K F kvs vs → RepK K F (kvs.map fun kv => if kv.1 = k then (kv.1, d) else kv) (vs.map fun kv => if kv.1 = k then (kv.1, v) else kv)
  | _, _, .nil => .nil
  | _, _, .cons (k := k0) r rs => by
    rw [List.map_cons, List.map_cons]
    by_cases h : k0 = k
    · rw [if_pos h, if_pos h]; exact .cons q (RepK.mapk q rs)
    · rw [if_neg h, if_neg h]; exact .cons r (RepK.mapk q rs)
theorem RepK.append {K : Frag} {F : Hp} : ∀ {kvs : List (Key × D)} {vs : List (Key × V)} {es : List (Key × D)} {us : List (Key × V)}, RepK K F kvs vs → RepK K F es us → RepK K F (kvs ++ es) (vs ++ us)
  | _, _, _, _, .nil, h => h
  | _, _, _, _, .cons r rs, h => .cons r (rs.append h)
theorem RepK.put {K : Frag} {F : Hp} {k : Key} {d : D} {v : V} {kvs : List (Key × D)} {vs : List (Key × V)} (r : RepK K F kvs vs) (q : Rep K F d v) : RepK K F (putD kvs k d) (putK vs k v) := by
  unfold putD putK
  rw [r.anyk]
  split
  · exact r.mapk q
  · exact r.append (.cons q .nil)
theorem RepK.length {K : Frag} {F : Hp} : ∀ {kvs : List (Key × D)} {vs : List (Key × V)}, RepK K F kvs vs → kvs.length = vs.length
  | _, _, .nil => rfl
  | _, _, .cons _ r => congrArg (· + 1) r.length
theorem putD_len (kvs : List (Key × D)) (k : Key) (d : D) : (putD kvs k d).length ≤ kvs.length + 1 := by
  unfold putD
  split
  · rw [List.length_map]; omega
  · rw [List.length_append]; exact Nat.le_refl _
def asK (x : Vl) : M Key := match x with
  | .d (.int i) => pur (.inl i)
  | .d (.str z) => pur (.inr z)
  | _ => stuck
def dcL (t : Tgt) (p : Env → M Bool) (f g : Env → M Vl) (ρ : Env) : List (Key × D) → List D → M (List (Key × D))
  | acc, [] => pur acc
  | acc, d :: ds => bnd (gSet t d ρ) fun ρ1 => bnd (p ρ1) fun b => match b with
    | true => bnd (f ρ1) fun x => bnd (g ρ1) fun y => bnd (asK x) fun k => bnd (asD y) fun v => dcL t p f g ρ (putD acc k v) ds
    | false => dcL t p f g ρ acc ds
def dctV (kvs : List (Key × D)) : M Vl := pur (.d (.dct kvs))
def eDc (it : Env → M (List D)) (t : Tgt) (p : Env → M Bool) (f g : Env → M Vl) (own : List Nat) : Env → M Vl := fun ρ => bnd (it ρ) fun ds => if ds.length ≤ 100000 then bnd (noE (dcL t p f g (wipeE ρ own) [] ds)) dctV else stuck
/-- what is still to come -/
def RestD (K : Frag) (G : Hp) (Q : VK) (F : Hp) (m : List Addr) (r : R (List (Key × D))) : Prop := match r with
  | .ok rs S' => ∀ (F' : Hp) (m' : List Addr) (H' : Hp) (q : Addr) (vs : List (Key × V)), Ext F F' m m' → Wd K F' m' (upd G q (.dK vs)) S' H' → G q = none → RepK K F' rs vs → Q (.ref q) H'
  | .err _ _ => False
  | .no => False
theorem RestD.ext {K : Frag} {G : Hp} {Q : VK} {F F1 : Hp} {m m1 : List Addr} {r : R (List (Key × D))} (e : Ext F F1 m m1) (h : RestD K G Q F m r) : RestD K G Q F1 m1 r := by
  unfold RestD at h ⊢
  split
  · exact fun F' m' H' q vs e' => h F' m' H' q vs (e.trans e')
  · exact h
  · exact h
theorem tDc_of {K : Frag} {it : Env → M (List D)} {t : Tgt} {p : Env → M Bool} {f g : Env → M Vl} {own : List Nat} {σ : L2.St} {H : Hp} {Q : VK} (hs : ∀ i ∈ t.slots, i ∈ own) (h : tE K Er (eDc it t p f g own) σ H Q) : tDc (tI K Er it) (t.tg K) (tT K er0 p) (tE K er0 f) (tE K er0 g) own σ H Q := by
  obtain ⟨F, m, G, S, ρ, w, r, z⟩ := h
  refine ⟨F, m, G, S, ρ, w, r, ?_⟩
  unfold eDc bnd at z
  cases q : it ρ S with
  | err => rw [q] at z; exact z
  | no => rw [q] at z; exact z
  | ok ds S0 =>
    rw [q] at z
    simp only [] at z
    by_cases hz : ds.length ≤ 100000
    case neg => rw [if_neg hz] at z; exact z.elim
    rw [if_pos hz] at z
    intro F0 m0 H0 J e0 w0 wk Dl hD
    have hG : G Dl = none := w0.gfresh hD
    have z0 : RestD K G Q F0 m0 (dcL t p f g (wipeE ρ own) [] ds S0) := by
      unfold RestD
      unfold noE at z
      cases q1 : dcL t p f g (wipeE ρ own) [] ds S0 with
      | err => rw [q1] at z; exact z
      | no => rw [q1] at z; exact z
      | ok rs S1 =>
        rw [q1] at z
        intro F1 m1 H1 p1 vs e1 w1 hG1 rs1
        exact z _ m1 H1 _ ((e0.trans e1).trans (Ext.lay (w1.gF p1 _ upd_same))) (w1.freeze hG1) (.dct upd_same (rs1.mono (same_upd (w1.gF p1 _ upd_same))))
    refine ⟨fun i k H1 => k = ds.length - i ∧ i ≤ ds.length ∧ ∃ F1 m1 S1 dn vs, Ext F0 F1 m0 m1 ∧ Wd K F1 m1 (upd G Dl (.dK vs)) S1 H1 ∧ RepK K F1 dn vs ∧ dn.length ≤ i ∧ RestD K G Q F1 m1 (dcL t p f g (wipeE ρ own) dn (ds.drop i) S1),
      ⟨ds.length, by simp, Nat.zero_le _, F0, m0, S0, [], [], Ext.refl _ _, w0.push hD _, .nil, Nat.le_refl _, by rw [List.drop_zero]; exact z0⟩, ?_⟩
    rintro i k H1 ⟨rfl, hi, F1, m1, S1, dn, vs, e1, w1, rs, hl, z1⟩
    have sub : Same F0 H1 := e1.fro.trans w1.sub
    by_cases hlt : i < ds.length
    · rw [List.drop_eq_getElem_cons hlt] at z1
      refine .inr ⟨wk.go i H1 sub hlt, fun H2 => ∃ F2 m2 S2 dn2 vs2, Ext F0 F2 m0 m2 ∧ Wd K F2 m2 (upd G Dl (.dK vs2)) S2 H2 ∧ RepK K F2 dn2 vs2 ∧ dn2.length ≤ i + 1 ∧ RestD K G Q F2 m2 (dcL t p f g (wipeE ρ own) dn2 (ds.drop (i + 1)) S2),
        fun H2 ⟨F2, m2, S2, dn2, vs2, e2, w2, r2, l2, z2⟩ => ⟨ds.length - (i + 1), by omega, rfl, hlt, F2, m2, S2, dn2, vs2, e2, w2, r2, l2, z2⟩, fun x H' y => ?_⟩
      obtain ⟨F1', e1', w1', rd⟩ := wk.nxt e1 w1 hlt y
      have z1 := RestD.ext e1' z1
      have rs := rs.mono e1'.fro
      have e1 := e1.trans e1'
      have w1 := w1'
      have rw1 : RepE K F1' m1 (wipeE ρ own) (L2.wipe σ own) := (r.mono (e0.trans e1)).wipe own
      unfold dcL bnd at z1
      rcases gSet_no (t := t) (d := ds[i]) (ρ := wipeE ρ own) (S := S1) with ⟨ρ2, q1⟩ | q1
      · rw [q1] at z1
        simp only [] at z1
        refine tgt_of w1 rd rw1 q1 fun σ2 r2 hw _ => ⟨(hw own hs).trans (wipe_wipe σ own), ?_⟩
        refine ⟨F1', m1, upd G Dl (.dK vs), S1, ρ2, w1, r2, ?_⟩
        cases q2 : p ρ2 S1 with
        | err => rw [q2] at z1; exact z1.elim
        | no => rw [q2] at z1; exact z1.elim
        | ok b S2 =>
          rw [q2] at z1
          intro F2 m2 H2 b' e2 w2 eb
          have eb : b = b' := eb
          subst eb
          cases b with
          | false =>
            simp only [] at z1
            rw [if_neg Bool.false_ne_true]
            exact ⟨F2, m2, S2, dn, vs, e1.trans e2, w2, rs.mono e2.fro, by omega, z1.ext e2⟩
          | true =>
            simp only [] at z1
            rw [if_pos rfl]
            refine ⟨F2, m2, upd G Dl (.dK vs), S2, ρ2, w2, r2.mono e2, ?_⟩
            cases q3 : f ρ2 S2 with
            | err => rw [q3] at z1; exact z1.elim
            | no => rw [q3] at z1; exact z1.elim
            | ok xv S3 =>
              rw [q3] at z1
              simp only [] at z1
              intro F3 m3 H3 v e3 w3 rv
              refine ⟨F3, m3, upd G Dl (.dK vs), S3, ρ2, w3, r2.mono (e2.trans e3), ?_⟩
              cases q4 : g ρ2 S3 with
              | err => rw [q4] at z1; exact z1.elim
              | no => rw [q4] at z1; exact z1.elim
              | ok yv S4 =>
                rw [q4] at z1
                simp only [] at z1
                intro F4 m4 H4 v4 e4 w4 rv4
                have rv := rv.mono e4
                have fin : ∀ k : Key, RestD K G Q F1' m1 (bnd (asD yv) (fun a => dcL t p f g (wipeE ρ own) (putD dn k a) (ds.drop (i + 1))) S4) → ∃ F2 m2 S2 dn2 vs2, Ext F0 F2 m0 m2 ∧ Wd K F2 m2 (upd G Dl (.dK vs2)) S2 (upd H4 Dl (.dK (putK vs k v4))) ∧ RepK K F2 dn2 vs2 ∧ dn2.length ≤ i + 1 ∧ RestD K G Q F2 m2 (dcL t p f g (wipeE ρ own) dn2 (ds.drop (i + 1)) S2) := fun k zz => by
                  cases yv with
                  | c n => exact zz.elim
                  | d yd =>
                    have e5 := e2.trans (e3.trans e4)
                    refine ⟨F4, m4, S4, putD dn k yd, putK vs k v4, e1.trans e5, ?_, (rs.mono e5.fro).put rv4, by have := putD_len dn k yd; omega, RestD.ext e5 zz⟩
                    exact (w4.unframe hG).frame upd_same (w4.gF Dl _ upd_same) fun n hn => by
                      have := w4.gm n Dl hn
                      rw [upd_same] at this; cases this
                have hD4 : H4 Dl = some (.dK vs) := w4.gsub Dl _ upd_same
                have hl4 : vs.length < sizeLine := by rw [← rs.length]; exact sz5' (by omega)
                cases xv with
                | c n => exact z1.elim
                | d xd =>
                  cases xd with
                  | int j => cases rv; exact ⟨vs, .inl j, rfl, hD4, hl4, fin (.inl j) z1⟩
                  | str j => cases rv; exact ⟨vs, .inr j, rfl, hD4, hl4, fin (.inr j) z1⟩
                  | _ => exact z1.elim
      · rw [q1] at z1; exact z1.elim
    · have ei : i = ds.length := by omega
      subst ei
      rw [List.drop_length] at z1
      refine .inl ⟨wk.stop _ H1 sub (Nat.le_refl _), ?_⟩
      exact z1 F1 m1 H1 Dl vs (Ext.refl _ _) w1 hG rs
section
variable {X : Cx} {kx vx tg iter : Expr} {ifs : List Expr} {scope : Scope} {own : List (Str × Nat)} {pos : Pos} {it : Env → M (List D)} {t : Tgt} {p : Env → M Bool} {f g : Env → M Vl}
theorem me_dc (own : List (Str × Nat)) (hc : X.calm = true) (hN : X.N.Nodup) (hi : MI X Er tg iter it) (ok : BlkOk X.N X.env.scope scope own)
    (hg : ∀ (s : Shared) (H : Hp) (C : Addr) (cl : List (Str × Addr)) (fp : List Addr), MG (X.blk s H scope (compEnvC scope cl C X.env) fp) tg t) (ht : ∀ (s : Shared) (H : Hp) (C : Addr) (cl : List (Str × Addr)) (fp : List Addr), MTs (X.blk s H scope (compEnvC scope cl C X.env) fp) er0 ifs p)
    (hk : ∀ (s : Shared) (H : Hp) (C : Addr) (cl : List (Str × Addr)) (fp : List Addr), ME (X.blk s H scope (compEnvC scope cl C X.env) fp) er0 kx f)
    (he : ∀ (s : Shared) (H : Hp) (C : Addr) (cl : List (Str × Addr)) (fp : List Addr), ME (X.blk s H scope (compEnvC scope cl C X.env) fp) er0 vx g) (hsl : ∀ i ∈ t.slots, i ∈ own.map (·.2) := by decide) (hs : ∀ x, foldedSetIterable iter X.env x = pure x := by intro _; rfl) :
    ME X Er (.DictComp kx vx [⟨tg, iter, ifs, 0⟩] scope pos) (eDc it t p f g (own.map (·.2))) := PE.imp (pe_dc hc hN hi ok hg ht hk he hs) fun _ _ _ => tDc_of hsl
end
/-! ### two names at once; what is never come to -/
section
variable {X : Cx} {pos : Pos}
def sPar (i j : Nat) (fs : Env → M (List Vl)) : Env → M Out := fun ρ => bnd (fs ρ) fun xs => match xs with
  | [x, y] => pur (.nx ((ρ.set i (some x)).set j (some y)))
  | _ => stuck
theorem ms_par {i j : Nat} {x y : Str} {a b : Expr} {fs : Env → M (List Vl)} {px py pt : Pos} {kt k2 pt2} (hc : X.calm = true) (hN : X.N.Nodup) (hi : X.N[i]? = some x) (hj : X.N[j]? = some y) (hij : i ≠ j)
    (hx : X.env.scope.names.lookup x = some .local) (hy : X.env.scope.names.lookup y = some .local) (ha : MA X Er [a, b] fs)
    (hw : swappedStores [.Tuple [.Name x px, .Name y py] kt pt] (.Tuple [a, b] k2 pt2) X.env = pure (some [x, y]) := by rfl)
    (hs : swapsWithSole [.Tuple [.Name x px, .Name y py] kt pt] (.Tuple [a, b] k2 pt2) pos.line X.env = pure false := by rfl) :
    MS X Er (.Assign [.Tuple [.Name x px, .Name y py] kt pt] (.Tuple [a, b] k2 pt2) pos) (sPar i j fs) := PS.imp (ps_par hc hN hi hj hij hx hy ha hw hs) fun D σ H ⟨F, m, G, S, ρ, w, r, z⟩ => by
  refine rd_mono (rd_bndS (A := rVs X.K) w r z) fun vs H1 ⟨F1, m1, S1, xs, e1, w1, r1, ra, q1⟩ => ?_
  split at q1
  · cases ra with
    | cons t1 t2 =>
    cases t2 with
    | cons t2 t3 =>
    cases t3
    exact ⟨_, _, rfl, q1 F1 m1 H1 (Ext.refl _ _) w1 _ ((r1.set t1 i).set t2 j)⟩
  · exact q1.elim
/-- target = value -/
def sAsg (f : Env → M Vl) (t : Tgt) : Env → M Out := fun ρ => bnd (f ρ) fun x => bnd (asD x) fun d => bnd (gSet t d ρ) fun ρ1 => pur (.nx ρ1)
theorem ms_asg {tg e : Expr} {f : Env → M Vl} {t : Tgt} (he : ME X Er e f) (hg : MG X tg t) (hs : swapsWithSole [tg] e pos.line X.env = pure false := by rfl) (hw : swappedStores [tg] e X.env = pure none := by rfl)
    (h1 : (assignEach [tg] X.env).map (·.2) = [assign tg X.env] := by rfl) : MS X Er (.Assign [tg] e pos) (sAsg f t) := PS.imp (ps_asg he hg hs hw h1) fun D σ H ⟨F, m, G, S, ρ, w, r, z⟩ => by
  refine rd_mono (rd_bndS (A := rV X.K) w r z) fun v H1 ⟨F1, m1, S1, a1, e1, w1, r1, ra, q1⟩ => ?_
  cases a1 with
  | c n => exact q1.elim
  | d d1 =>
    unfold bnd asD pur at q1
    simp only [] at q1
    rcases gSet_no (t := t) (d := d1) (ρ := ρ) (S := S1) with ⟨ρ2, g1⟩ | g1
    · rw [g1] at q1
      refine tgt_of w1 ra r1 g1 fun σ2 r2 hw _ => ?_
      exact q1 F1 m1 H1 (Ext.refl _ _) w1 σ2 r2
    · rw [g1] at q1; exact q1.elim
def sNever : Env → M Out := fun _ => stuck
theorem ms_never {st : Stmt} : MS X Er st sNever := PS.imp ps_never fun D σ H ⟨F, m, G, S, ρ, w, r, z⟩ => z.elim
end
end Dz

/-! Dz10: instances of own classes: made, fields, properties, methods, operators by their methods, isinstance. -/
namespace Dz
open PySem PySem.Spec PyProof.Rows L2
/-! ### an instance's class -/
def insOf (x : Vl) : M (Str × List (Str × D)) := fun S => match x with
  | .d (.ins c fs) => .ok (c, fs) S
  | .c n => match S[n]? with
    | some (.ins c fs) => .ok (c, fs) S
    | _ => .no
  | _ => .no
theorem insOf_rep {K : Frag} {F G H : Hp} {m : List Addr} {S S' : Sto} {x : Vl} {v : V} {c : Str} {fs : List (Str × D)} (w : Wd K F m G S H) (r : RepV K F m x v) (h : insOf x S = .ok (c, fs) S') :
    S' = S ∧ ∃ a dx vs, v = .ref a ∧ H a = some (.ins (He.ga K c) dx vs) ∧ RepF K F fs vs := by
  unfold insOf at h
  split at h
  · cases h
    cases r with
    | ins ha rs => exact ⟨rfl, _, _, _, rfl, w.sub _ _ ha, rs⟩
  · rename_i n
    obtain ⟨a, hm, rfl⟩ := r
    split at h
    · rename_i c fs q
      cases h
      obtain ⟨o, ho, rr⟩ := w.cells n a _ hm q
      cases rr with
      | ins rs => exact ⟨rfl, _, _, _, rfl, ho, rs⟩
    · cases h
  · cases h
theorem insOf_or (x : Vl) (S : Sto) : (∃ p, insOf x S = .ok p S) ∨ insOf x S = .no := by
  unfold insOf
  split
  · exact .inl ⟨_, rfl⟩
  · split
    · exact .inl ⟨_, rfl⟩
    · exact .inr rfl
  · exact .inr rfl
/-- what stands behind insOf -/
theorem res_ins {α β : Type} {K : Frag} {A : Hp → List Addr → α → β → Prop} {F G H : Hp} {m : List Addr} {S : Sto} {x : Vl} {v : V} {k : Str × List (Str × D) → M α} {Q : β → Hp → Prop} (w : Wd K F m G S H) (r : RepV K F m x v) (h : res K Er A F m G (bnd (insOf x) k S) Q) :
    ∃ c fs a dx vs, insOf x S = .ok (c, fs) S ∧ v = .ref a ∧ H a = some (.ins (He.ga K c) dx vs) ∧ RepF K F fs vs ∧ res K Er A F m G (k (c, fs) S) Q := by
  rcases insOf_or x S with ⟨⟨c, fs⟩, q⟩ | q
  · obtain ⟨_, a, dx, vs, hv, hH, rs⟩ := insOf_rep w r q
    unfold bnd at h
    rw [q] at h
    exact ⟨c, fs, a, dx, vs, q, hv, hH, rs, h⟩
  · unfold bnd at h
    rw [q] at h
    exact h.elim
theorem resS_ins {K : Frag} {D0 : Ends} {F G H : Hp} {m : List Addr} {S : Sto} {x : Vl} {v : V} {k : Str × List (Str × D) → M Out} (w : Wd K F m G S H) (r : RepV K F m x v) (h : resS K Er D0 F m G (bnd (insOf x) k S)) :
    ∃ c fs a dx vs, insOf x S = .ok (c, fs) S ∧ v = .ref a ∧ H a = some (.ins (He.ga K c) dx vs) ∧ RepF K F fs vs ∧ resS K Er D0 F m G (k (c, fs) S) := by
  rcases insOf_or x S with ⟨⟨c, fs⟩, q⟩ | q
  · obtain ⟨_, a, dx, vs, hv, hH, rs⟩ := insOf_rep w r q
    unfold bnd at h
    rw [q] at h
    exact ⟨c, fs, a, dx, vs, q, hv, hH, rs, h⟩
  · unfold bnd at h
    rw [q] at h
    exact h.elim
/-! ### fields -/
def fld (cs : List Str) (f : Str) (x : Vl) : M Vl := bnd (insOf x) fun p => if p.1 ∈ cs then opt (p.2.lookup f) fun d => pur (.d d) else stuck
def eFld (cs : List Str) (f : Str) (g : Env → M Vl) : Env → M Vl := fun ρ => bnd (g ρ) (fld cs f)
def putFD (f : Str) (d : D) : List (Str × D) → List (Str × D)
  | [] => [(f, d)]
  | (g, x) :: r => if g = f then (g, d) :: r else (g, x) :: putFD f d r
theorem RepF.put {K : Frag} {F : Hp} {f : Str} {d : D} {v : V} (q : Rep K F d v) : ∀ {fs : List (Str × D)} {vs : List (Str × V)}, RepF K F fs vs → RepF K F (putFD f d fs) (putF f v vs)
  | _, _, .nil => .cons q .nil
  | _, _, .cons (k := k) r rs => by
    unfold putFD putF
    by_cases h : k = f
    · rw [if_pos h, if_pos h]; exact .cons q rs
    · rw [if_neg h, if_neg h]; exact .cons r (RepF.put q rs)
/-- o.f = v, o a young instance -/
def stF (cs : List Str) (f : Str) (o v : Vl) : M Unit := fun S => match o, v with
  | .c n, .d d => match S[n]? with
    | some (.ins c fs) => if c ∈ cs ∧ fs.length < 1000 then .ok () (S.set n (.ins c (putFD f d fs))) else .no
    | _ => .no
  | _, _ => .no
def sFd (cs : List Str) (f : Str) (o v : Env → M Vl) : Env → M Out := fun ρ => bnd (v ρ) fun y => bnd (o ρ) fun x => bnd (stF cs f x y) fun _ => pur (.nx ρ)
section
variable {X : Cx} {e o value : Expr} {f : Str} {pos pos' : Pos} {g h : Env → M Vl}
structure FldC (K : Frag) (c f : Str) : Prop where
  cls : Cls K (He.ga K c)
  noat : NoAttr K (He.ga K c) f
theorem me_fld {cs : List Str} (he : ME X Er e g) (hc : ∀ c ∈ cs, FldC X.K c f) (hb : attributeBase e f X.env (eval e X.env) = eval e X.env := by rfl) : ME X Er (.Attribute e f pos) (eFld cs f g) := PE.imp (pe_fld he hb) fun σ H Q ⟨F, m, G, S, ρ, w, r, z⟩ => by
  refine rd_mono (rd_bnd (A := rV X.K) w r z) fun v H1 ⟨F1, m1, S1, a1, e1, w1, r1, ra, q1⟩ => ?_
  obtain ⟨c, fs, a, dx, vs, _, rfl, hH, rs, z1⟩ := res_ins w1 ra q1
  simp only [] at z1
  by_cases hm : c ∈ cs
  · rw [if_pos hm] at z1
    obtain ⟨d, hd, z2⟩ := res_opt z1
    obtain ⟨v, hv, rd⟩ := rs.look hd
    exact ⟨a, _, dx, vs, v, rfl, hH, (hc c hm).cls, (hc c hm).noat, hv, res_ok w1 rd z2⟩
  · rw [if_neg hm] at z1; exact z1.elim
theorem ms_fld {cs : List Str} (ho : ME X Er o g) (hv : ME X Er value h) (hc : ∀ c ∈ cs, FldC X.K c f) (hs : swapsWith value (some (.Attribute o f pos')) pos.line X.env = pure false := by rfl) : MS X Er (.Assign [.Attribute o f pos'] value pos) (sFd cs f g h) := PS.imp (ps_fld ho hv hs) fun D σ H ⟨F, m, G, S, ρ, w, r, z⟩ => by
  refine rd_mono (rd_bndS (A := rV X.K) w r z) fun y H1 ⟨F1, m1, S1, y1, e1, w1, r1, ry, q1⟩ => ?_
  refine rd_mono (rd_bndS (A := rV X.K) w1 r1 q1) fun x H2 ⟨F2, m2, S2, x2, e2, w2, r2, rx, q2⟩ => ?_
  have ry := ry.mono e2
  cases x2 with
  | d x2 => exact q2.elim
  | c n =>
    cases y1 with
    | c k => exact q2.elim
    | d yd =>
      unfold bnd stF at q2
      simp only [] at q2
      cases qn : S2[n]? with
      | none => rw [qn] at q2; exact q2.elim
      | some ob =>
        rw [qn] at q2
        cases ob with
        | lst xs => exact q2.elim
        | ins c fs =>
          simp only [] at q2
          by_cases hk : c ∈ cs ∧ fs.length < 1000
          · rw [if_pos hk] at q2
            obtain ⟨a, hm, rfl⟩ := rx
            obtain ⟨o, ho, rr⟩ := w2.cells n a _ hm qn
            cases rr with
            | ins rs =>
            refine ⟨a, _, _, _, rfl, ho, (hc c hk.1).cls, (hc c hk.1).noat, by rw [← rs.length]; exact hk.2, ?_⟩
            exact q2 F2 m2 _ (Ext.refl _ _) (w2.write hm (.ins (rs.put ry))) _ r2
          · rw [if_neg hk] at q2; exact q2.elim
end
/-! ### an instance is made -/
def frzI (n : Nat) (S : Sto) : R Vl := match S[n]? with
  | some (.ins c fs) => .ok (.d (.ins c fs)) (S.take n)
  | _ => .no
def mkI (c : Str) (φ : List Vl → M Vl) (xs : List Vl) : M Vl := fun S => match φ (.c S.length :: xs) (S ++ [.ins c []]) with
  | .ok (.d .non) S' => frzI S.length S'
  | .ok _ _ => .no
  | .err x S' => .err x (S'.take S.length)
  | .no => .no
def eMk (c : Str) (φ : List Vl → M Vl) (fs : Env → M (List Vl)) : Env → M Vl := fun ρ => bnd (fs ρ) (mkI c φ)
theorem RepVs.up {K : Frag} {F F' : Hp} {m m' : List Addr} (e : Ext F F' m m') {xs : List Vl} {vs : List V} (h : RepVs K F m xs vs) : RepVs K F' m' xs vs := RepVs.mono e h
theorem mk_of {K : Frag} {c : Str} {φ : List Vl → M Vl} {n : Nat} {F G H : Hp} {m : List Addr} {S : Sto} {xs : List Vl} {vs : List V} {Q : VK} {E : XK} (w : Wd K F m G S H) (ra : RepVs K F m xs vs) (hl : vs.length = n) (hi : ∀ (x : Exn) (F H : Hp), Er x F H → erE K E x F H) (z : res K Er (rV K) F m G (mkI c φ xs S) Q)
    (x dx : Addr) (hx : H x = none) (hdx : H dx = none) (hne : dx ≠ x) : spM K (n + 1) φ (.ref x :: vs) (upd (upd H dx (.own x)) x (.ins (He.ga K c) dx [])) (fun v H2 => v = .non ∧ Q (.ref x) H2) E := by
  have w1 := w.lay hdx (.own x)
  have hx1 : upd H dx (.own x) x = none := by rw [upd_ne (fun z => hne z.symm)]; exact hx
  have w2 := w1.cell hx1 (b := .ins c []) (o := .ins (He.ga K c) dx []) (.ins .nil)
  have e2 : Ext F (upd F dx (.own x)) m (m ++ [x]) := (Ext.lay (w.fresh hdx)).trans (Ext.cell x)
  have lm : m.length = S.length := w.len
  refine ⟨by simp [hl], _, m ++ [x], G, _, .c S.length :: xs, w2, .cons ⟨x, by rw [← lm]; simp, rfl⟩ (ra.mono e2), ?_⟩
  unfold mkI at z
  cases q : φ (.c S.length :: xs) (S ++ [.ins c []]) with
  | err xx S' =>
    rw [q] at z
    intro F' m' H' e' w'
    have w3 := w'.cut S.length
    rw [show m'.take S.length = m from by rw [← lm]; exact pre_take ((List.prefix_append m [x]).trans e'.pre)] at w3
    exact hi _ _ _ (z F' m H' ⟨(same_upd (w.fresh hdx)).trans e'.fro, List.prefix_refl m⟩ w3)
  | no => rw [q] at z; exact z.elim
  | ok y S' =>
    rw [q] at z
    cases y with
    | c k => exact z.elim
    | d y =>
      cases y with
      | non =>
        intro F' m' H' b e' w' rb
        cases rb
        refine ⟨rfl, ?_⟩
        simp only [] at z
        unfold frzI at z
        cases q2 : S'[S.length]? with
        | none => rw [q2] at z; exact z.elim
        | some ob =>
          rw [q2] at z
          cases ob with
          | lst l => exact z.elim
          | ins c' fs =>
            simp only [] at z
            have hm' : m'[S.length]? = some x := e'.at (by rw [← lm]; simp)
            obtain ⟨o, ho, rr⟩ := w'.cells _ _ _ hm' q2
            cases rr with
            | ins rs =>
            rename_i dx' vs'
            have w3 := w'.cut S.length
            have hp : m <+: m' := (List.prefix_append m [x]).trans e'.pre
            have e3 : m'.take S.length = m := by rw [← lm]; exact pre_take hp
            rw [e3] at w3
            have nx : ∀ k : Nat, m[k]? ≠ some x := fun k hk => w.ne hx hk rfl
            have w4 := (w3.frame ho (w'.off _ _ hm') nx).freeze (w.gfresh hx)
            have hF : F' x = none := w'.off _ _ hm'
            refine z _ m H' _ ?_ w4 (.ins upd_same (rs.mono (same_upd hF)))
            exact ⟨((same_upd (w.fresh hdx)).trans e'.fro).trans (same_upd hF), List.prefix_refl m⟩
      | _ => exact z.elim
section
variable {X : Cx} {x c : Str} {p pos : Pos} {e : Expr} {es : List Expr} {fs : Env → M (List Vl)} {k n : Nat} {f C : Addr} {φ : List Vl → M Vl}
theorem tMake_of {E : XK} {σ : L2.St} {H : Hp} {Q : VK} {K : Frag} (hi : ∀ (x : Exn) (F H : Hp), Er x F H → erE K E x F H) (hl : Ln fs n) (hw : tE K Er (eMk c φ fs) σ H Q) : tMakeG (He.ga K c) n (spM K (n + 1) φ) E (tA K Er fs) σ H Q := by
  obtain ⟨F, m, G, S, ρ, w, r, z⟩ := hw
  unfold tMakeG
  refine ⟨F, m, G, S, ρ, w, r, ?_⟩
  unfold eMk bnd at z
  cases q : fs ρ S with
  | err => rw [q] at z; exact z
  | no => rw [q] at z; exact z
  | ok xs S1 =>
    rw [q] at z
    intro F1 m1 H1 vs e1 w1 ra
    have l : vs.length = n := by rw [← ra.length]; exact hl.ln ρ S xs S1 q
    exact ⟨l, fun x dx hx hdx hne => mk_of w1 ra l hi (res_ext e1 z) x dx hx hdx hne⟩
theorem me_make (M : Mk X.K (He.ga X.K c) f) (G : FnG X.prog X.w X.K X.mg X.base (CX X.prog X.w) k (n + 1) f (spM X.K (n + 1) φ)) (eo : ErOk X Er E) (hr : Rm (k + 1) X.A) (hg : Gl X c) (hm : X.mg c = some (.ref (He.ga X.K c))) (ha : MA X Er (e :: es) fs) (hl : Ln fs n)
    (hdb : (c == ("__debug__" : Str)) = false := by decide) (he : Args1 X e es := by rfl) (hpl : NoStar X es pos := by rfl) :
    ME X Er (.Call (.Name c p) (e :: es) [] pos) (eMk c φ fs) := PE.imp (pg_make (E := E) M G hr hg hm eo.pass ha hdb he hpl) fun _ _ _ => tMake_of eo.imp hl
end
/-! ### properties and methods -/
def isI (c : Str) (x : Vl) : M Unit := bnd (insOf x) fun p => if p.1 = c then pur () else stuck
def isM (c m : Str) (x : Vl) : M Unit := bnd (insOf x) fun p => if p.1 = c ∧ p.2.lookup m = none then pur () else stuck
def ePro (c : Str) (φ : List Vl → M Vl) (g : Env → M Vl) : Env → M Vl := fun ρ => bnd (g ρ) fun x => bnd (isI c x) fun _ => noE (φ [x])
def eMet (c m : Str) (φ : List Vl → M Vl) (g : Env → M Vl) (fs : Env → M (List Vl)) : Env → M Vl := fun ρ => bnd (g ρ) fun x => bnd (isM c m x) fun _ => bnd (fs ρ) fun xs => φ (x :: xs)
theorem bnd_assoc {α β γ : Type} (f : M α) (g : α → M β) (h : β → M γ) : bnd (bnd f g) h = bnd f fun a => bnd (g a) h := by
  funext S
  unfold bnd
  cases f S <;> rfl
section
variable {X : Cx} {c m : Str} {p pos apos : Pos} {o e : Expr} {es : List Expr} {g : Env → M Vl} {fs : Env → M (List Vl)} {k n : Nat} {f pr : Addr} {φ : List Vl → M Vl}
theorem me_prop (he : ME X Er o g) (hc : Cls X.K (He.ga X.K c)) (hp : PropOf X.K (He.ga X.K c) m pr f) (G : FnG X.prog X.w X.K X.mg X.base (CX X.prog X.w) k 1 f (spM X.K 1 φ)) (hr : Rm (k + 1) X.A)
    (hab : attributeBase o m X.env (eval o X.env) = eval o X.env := by rfl) : ME X Er (.Attribute o m pos) (ePro c φ g) := PE.imp (pg_prop (E := fun _ _ _ => False) he hc hp G hr (fun _ _ _ _ ⟨_, _, _, _, _, _, _, _, _, _, _, _, z⟩ => z) hab) fun σ H Q ⟨F, mm, Gh, S, ρ, w, r, z⟩ => by
  refine rd_mono (rd_bnd (A := rV X.K) w r z) fun v H1 ⟨F1, m1, S1, a1, e1, w1, r1, ra, q1⟩ => ?_
  unfold isI at q1
  rw [bnd_assoc] at q1
  obtain ⟨c1, fs, a, dx, vs, _, rfl, hH, rs, z1⟩ := res_ins w1 ra q1
  simp only [] at z1
  by_cases hm : c1 = c
  · subst hm
    rw [if_pos rfl] at z1
    exact ⟨a, dx, vs, rfl, hH, rfl, F1, m1, Gh, S1, [a1], w1, .cons ra .nil, res_noE z1⟩
  · rw [if_neg hm] at z1; exact z1.elim
theorem tMet_of {E : XK} {σ : L2.St} {H : Hp} {Q : VK} {K : Frag} (hi : ∀ (x : Exn) (F H : Hp), Er x F H → erE K E x F H) (hl : Ln fs n) (hw : tE K Er (eMet c m φ g fs) σ H Q) : tMethG (He.ga K c) m n (spM K (n + 1) φ) E (tE K Er g) (tA K Er fs) σ H Q := by
  obtain ⟨F, mm, G, S, ρ, w, r, z⟩ := hw
  refine rd_mono (rd_bnd (A := rV K) w r z) fun v H1 ⟨F1, m1, S1, a1, e1, w1, r1, ra, q1⟩ => ?_
  unfold isM at q1
  rw [bnd_assoc] at q1
  obtain ⟨c1, fs1, a, dx, vs, _, rfl, hH, rs, z1⟩ := res_ins w1 ra q1
  simp only [] at z1
  by_cases hm : c1 = c ∧ fs1.lookup m = none
  · obtain ⟨rfl, hn⟩ := hm
    rw [if_pos ⟨rfl, hn⟩] at z1
    have z1 : res K Er (rV K) F1 m1 G (bnd (fs ρ) (fun xs => φ (a1 :: xs)) S1) Q := z1
    refine ⟨a, dx, vs, rfl, hH, rs.none_of hn, F1, m1, G, S1, ρ, w1, r1, ?_⟩
    unfold bnd at z1
    cases q : fs ρ S1 with
    | err => rw [q] at z1; exact z1
    | no => rw [q] at z1; exact z1
    | ok xs S2 =>
      rw [q] at z1
      intro F2 m2 H2 us e2 w2 rus
      have l : us.length = n := by rw [← rus.length]; exact hl.ln ρ S1 xs S2 q
      exact ⟨l, by rw [List.length_cons, l], F2, m2, G, S2, a1 :: xs, w2, .cons (ra.mono e2) rus, res_imp hi (res_ext e2 z1)⟩
  · rw [if_neg hm] at z1; exact z1.elim
theorem me_meth {pl : Sem Bool} (ho : ME X Er o g) (hc : Cls X.K (He.ga X.K c)) (hm : Meth X.K (He.ga X.K c) m f) (G : FnG X.prog X.w X.K X.mg X.base (CX X.prog X.w) k (n + 1) f (spM X.K (n + 1) φ)) (eo : ErOk X Er E) (hr : Rm k X.A) (ha : MA X Er (e :: es) fs) (hl : Ln fs n)
    (hst : Args1 X e es := by rfl) (hpl : NoStar X es pos := by rfl)
    (ht : MethSh X o m apos (e :: es) pos pl := by rfl) :
    ME X Er (.Call (.Attribute o m apos) (e :: es) [] pos) (eMet c m φ g fs) := PE.imp (pg_meth (E := E) (pl := pl) ho hc hm G hr eo.pass ha hst hpl ht) fun _ _ _ => tMet_of eo.imp hl
theorem me_meth0 {pl : Sem Bool} (ho : ME X Er o g) (hc : Cls X.K (He.ga X.K c)) (hm : Meth X.K (He.ga X.K c) m f) (G : FnG X.prog X.w X.K X.mg X.base (CX X.prog X.w) k 1 f (spM X.K 1 φ)) (eo : ErOk X Er E) (hr : Rm k X.A)
    (ht : MethSh X o m apos [] pos pl := by rfl) :
    ME X Er (.Call (.Attribute o m apos) [] [] pos) (eMet c m φ g aNil) := PE.imp (pg_meth0 (E := E) (pl := pl) ho hc hm G hr eo.pass ht) fun σ H Q h => by
  obtain ⟨F, mm, Gh, S, ρ, w, r, z⟩ := h
  refine rd_mono (rd_bnd (A := rV X.K) w r z) fun v H1 ⟨F1, m1, S1, a1, e1, w1, r1, ra, q1⟩ => ?_
  unfold isM at q1
  rw [bnd_assoc] at q1
  obtain ⟨c1, fs1, a, dx, vs, _, rfl, hH, rs, z1⟩ := res_ins w1 ra q1
  simp only [] at z1
  by_cases hm : c1 = c ∧ fs1.lookup m = none
  · obtain ⟨rfl, hn⟩ := hm
    rw [if_pos ⟨rfl, hn⟩] at z1
    exact ⟨a, dx, vs, rfl, hH, rs.none_of hn, rfl, F1, m1, Gh, S1, [a1], w1, .cons ra .nil, res_imp eo.imp z1⟩
  · rw [if_neg hm] at z1; exact z1.elim
end
end Dz

/-! Dz11: operators by an own class's methods, isinstance with own classes, bool(x). -/
namespace Dz
open PySem PySem.Spec PyProof.Rows L2
/-! ### types as data -/
inductive Ty where
  | bt (T : String) | ow (c : Str)
  deriving DecidableEq
def Ty.val (K : Frag) : Ty → Value
  | .bt T => .type T
  | .ow c => .ref (He.ga K c)
def tyD : D → Option Ty
  | .ins c _ => some (.ow c)
  | d => (tyN d).map .bt
def tyM (x : Vl) : M Ty := fun S => match x with
  | .d d => match tyD d with
    | some t => .ok t S
    | none => .no
  | .c n => match S[n]? with
    | some (.lst _) => .ok (.bt "list") S
    | some (.ins c _) => .ok (.ow c) S
    | none => .no
theorem tyM_or (x : Vl) (S : Sto) : (∃ t, tyM x S = .ok t S) ∨ tyM x S = .no := by
  unfold tyM
  split
  · split
    · exact .inl ⟨_, rfl⟩
    · exact .inr rfl
  · split
    · exact .inl ⟨_, rfl⟩
    · exact .inl ⟨_, rfl⟩
    · exact .inr rfl
/-- a built-in type, or an instance -/
inductive TyR (K : Frag) (H : Hp) (v : V) : Ty → Prop
  | bt {T : String} : TyX K H v (.type T) → TyR K H v (.bt T)
  | ow {c : Str} {a dx : Addr} {vs : List (Str × V)} : v = .ref a → H a = some (.ins (He.ga K c) dx vs) → TyR K H v (.ow c)
theorem tyD_rep {K : Frag} {F G H : Hp} {m : List Addr} {S : Sto} {d : D} {v : V} {t : Ty} (w : Wd K F m G S H) (r : Rep K F d v) (h : tyD d = some t) : TyR K H v t := by
  have bi : ∀ {T : String}, tyN d = some T → t = .bt T → TyR K H v t := fun {T} q e => by
    subst e
    exact .bt (tyN_rep w.sub r q)
  cases r with
  | ins ha rs => cases h; exact .ow rfl (w.sub _ _ ha)
  | ty b => cases h
  | cls c => cases h
  | _ => cases h; exact bi rfl rfl
theorem tyM_rep {K : Frag} {F G H : Hp} {m : List Addr} {S S' : Sto} {x : Vl} {v : V} {t : Ty} (w : Wd K F m G S H) (r : RepV K F m x v) (h : tyM x S = .ok t S') : S' = S ∧ TyR K H v t := by
  cases x with
  | d d =>
    unfold tyM at h
    simp only [] at h
    cases q : tyD d with
    | none => rw [q] at h; cases h
    | some t' => rw [q] at h; cases h; exact ⟨rfl, tyD_rep w r q⟩
  | c n =>
    unfold tyM at h
    simp only [] at h
    obtain ⟨a, hm, rfl⟩ := r
    cases q : S[n]? with
    | none => rw [q] at h; cases h
    | some ob =>
      rw [q] at h
      obtain ⟨o, ho, rr⟩ := w.cells n a _ hm q
      cases rr with
      | lst rs => cases h; exact ⟨rfl, .bt (.base (.lst ho))⟩
      | ins rs => cases h; exact ⟨rfl, .ow rfl ho⟩
section
variable {X : Cx} {pins : List (Addr × Obj)} {σ : L2.St} {H : Hp} {s : Shared}
theorem inst_of {a dx C : Addr} {fs : List (Str × V)} (I : Inv X pins σ H s) (ha : H a = some (.ins C dx fs)) : ∃ ox od, PySem.W.InstAt s.heap a ox C (some od) := by
  obtain ⟨mA, O, _⟩ := ins_get I.hok ha
  obtain ⟨od, J, _⟩ := O.look
  exact ⟨_, od, J⟩
theorem TyR.looks {v : V} {u : Value} {t : Ty} (h : TyR X.K H v t) (I : Inv X pins σ H s) (r : RelV v u) : PySem.W.Looks (model X.prog X.w) s.heap (typeOf u) (t.val X.K) := by
  cases h with
  | bt h =>
    obtain ⟨P, k, p, _⟩ := kit_of I r h
    exact k.ty _ _ I.kIn p
  | ow e ha =>
    subst e
    cases r
    obtain ⟨ox, od, J⟩ := inst_of I ha
    exact J.type
/-- one step: the type is asked, and then something -/
theorem res_ty {α β : Type} {K : Frag} {A : Hp → List Addr → α → β → Prop} {F G H : Hp} {m : List Addr} {S : Sto} {x : Vl} {v : V} {k : Ty → M α} {Q : β → Hp → Prop} (w : Wd K F m G S H) (r : RepV K F m x v) (h : res K Er A F m G (bnd (tyM x) k S) Q) :
    ∃ t, TyR K H v t ∧ res K Er A F m G (k t S) Q := by
  rcases tyM_or x S with ⟨t, q⟩ | q
  · obtain ⟨_, ht⟩ := tyM_rep w r q
    unfold bnd at h
    rw [q] at h
    exact ⟨t, ht, h⟩
  · unfold bnd at h
    rw [q] at h
    exact h.elim
/-! ### calls of a method by an operator -/
theorem run_dun {k n : Nat} {f : Addr} {φ : List Vl → M Vl} {A : Around} {E' : Value → Shared → Prop} {F Gh : Hp} {m : List Addr} {S : Sto} {xs : List Vl} {vs : List V} {us : List Value} {Q : VK} (G : FnG X.prog X.w X.K X.mg X.base (CX X.prog X.w) k n f (spM X.K n φ)) (hr : Rm k A)
    (e0 : Env0 X.prog X.w X.K X.mg X.base A X.stack s H) (I : Inv X pins σ H s) (r : Vals vs us) (hl : vs.length = n) (w : Wd X.K F m Gh S H) (ra : RepVs X.K F m xs vs) (z : res X.K Er (rV X.K) F m Gh (noE (φ xs) S) Q) :
    wpAny (model X.prog X.w) A (call (.ref f) us) (EP X pins σ Q) E' s :=
  run_g (E := fun _ _ _ => False) G hr e0 (fun _ _ ⟨_, _, _, _, _, _, _, _, _, _, _, _, z⟩ => z.elim) I r hl ⟨hl, F, m, Gh, S, xs, w, ra, res_noE z⟩
theorem run_dunE {k n : Nat} {f : Addr} {φ : List Vl → M Vl} {A : Around} {E : XK} {F Gh : Hp} {m : List Addr} {S : Sto} {xs : List Vl} {vs : List V} {us : List Value} {Q : VK} (G : FnG X.prog X.w X.K X.mg X.base (CX X.prog X.w) k n f (spM X.K n φ)) (eo : ErOk X Er E) (hr : Rm k A)
    (e0 : Env0 X.prog X.w X.K X.mg X.base A X.stack s H) (I : Inv X pins σ H s) (r : Vals vs us) (hl : vs.length = n) (w : Wd X.K F m Gh S H) (ra : RepVs X.K F m xs vs) (z : res X.K Er (rV X.K) F m Gh (φ xs S) Q) :
    wpAny (model X.prog X.w) A (call (.ref f) us) (EP X pins σ Q) X.xe s :=
  run_g (E := E) G hr e0 (fun e s' h => eo.pass pins σ H s e s' I h) I r hl ⟨hl, F, m, Gh, S, xs, w, ra, res_imp eo.imp z⟩
theorem rel_notImpl {v : V} : ¬ RelV v .notImplemented := by
  intro h
  cases v <;> first | exact nomatch h | (obtain ⟨t, e⟩ := h; exact nomatch e) | cases h
/-- what a method gives, as an operator's value -/
theorem cmpBack {Q : VK} {v : Value} {s' : Shared} (h : EP X pins σ Q v s') : PySem.W.CmpBack (EP X pins σ Q) v s' := by
  unfold PySem.W.CmpBack
  split
  · obtain ⟨x, H', I', r, q⟩ := h
    exact rel_notImpl r
  · exact h
end
/-- == by an own class's __eq__: the other one of one of these types -/
def dunEq (c : Str) (tys : List Ty) (φ : List Vl → M Vl) (g : Vl → Vl → M Vl) (a b : Vl) : M Vl := match a with
  | .d (.ins c' fs) => if c' = c then bnd (tyM b) fun t => if t ∈ tys then noE (φ [.d (.ins c' fs), b]) else stuck else stuck
  | a => g a b
def notB (x : Vl) : M Vl := match x with
  | .d (.bl k) => pur (.d (.bl (!k)))
  | _ => stuck
def dunNe (c : Str) (tys : List Ty) (φ : List Vl → M Vl) (g : Vl → Vl → M Vl) (a b : Vl) : M Vl := match a with
  | .d (.ins c' fs) => if c' = c then bnd (tyM b) fun t => if t ∈ tys then bnd (noE (φ [.d (.ins c' fs), b])) notB else stuck else stuck
  | a => g a b
def isB (x : Vl) : M Vl := match x with
  | .d (.bl k) => pur (.d (.bl k))
  | _ => stuck
def dunIn (c : Str) (φ : List Vl → M Vl) (g : Vl → Vl → M Vl) (a b : Vl) : M Vl := match b with
  | .d (.ins c' fs) => if c' = c then bnd (noE (φ [.d (.ins c' fs), a])) isB else stuck
  | b => g a b
def dunNi (c : Str) (φ : List Vl → M Vl) (g : Vl → Vl → M Vl) (a b : Vl) : M Vl := match b with
  | .d (.ins c' fs) => if c' = c then bnd (noE (φ [.d (.ins c' fs), a])) notB else stuck
  | b => g a b
def dunBin (c : Str) (φ : List Vl → M Vl) (g : Vl → Vl → M Vl) (a b : Vl) : M Vl := match a with
  | .d (.ins c1 fs) => match b with
    | .d (.ins c2 gs) => if c1 = c ∧ c2 = c then φ [.d (.ins c1 fs), .d (.ins c2 gs)] else stuck
    | _ => stuck
  | a => g a b
structure DunC (K : Frag) (c m : Str) (f : Addr) : Prop where
  at_ : PySem.W.findIn K (.ref (He.ga K c)) m = some (some (.ref f))
  fn : PySem.W.isFn K (.ref f) = true
theorem res_bndV {α β : Type} {K : Frag} {A : Hp → List Addr → Vl → V → Prop} {B : Hp → List Addr → α → β → Prop} {F G : Hp} {m : List Addr} {S : Sto} {r : M Vl} {k : Vl → M α} {Q : β → Hp → Prop} (h : res K Er B F m G (bnd r k S) Q) :
    res K Er A F m G (r S) fun v H' => ∃ F' m' S' a, Ext F F' m m' ∧ Wd K F' m' G S' H' ∧ A F' m' a v ∧ res K Er B F' m' G (k a S') Q := by
  unfold bnd at h
  cases q : r S with
  | ok a S' => rw [q] at h; exact fun F' m' H' b e w ra => ⟨F', m', S', a, e, w, ra, res_ext e h⟩
  | err x S' => rw [q] at h; exact h
  | no => rw [q] at h; exact h
section
variable {X : Cx} {c : Str} {tys : List Ty} {φ : List Vl → M Vl} {g : Vl → Vl → M Vl} {k : Nat} {f : Addr}
theorem om_dunEq (hb : OpM X Er (compareOp .Eq) g) (hs : DunC X.K c "__eq__" f) (hn : ∀ t ∈ tys, PySem.W.notFirst X.K (He.ga X.K c) (t.val X.K) = true) (G : FnG X.prog X.w X.K X.mg X.base (CX X.prog X.w) k 2 f (spM X.K 2 φ)) (hr : Rm k X.A) :
    OpM X Er (compareOp .Eq) (dunEq c tys φ g) := fun pins s σ H x y v u Q I rx ry ⟨F, m, Gh, S, a, b, w, ra, rb, z⟩ => by
  have other : g a b S = dunEq c tys φ g a b S → wpAny (model X.prog X.w) X.A (compareOp .Eq v u) (EP X pins σ Q) X.xe s := fun e => hb pins s σ H x y v u Q I rx ry ⟨F, m, Gh, S, a, b, w, ra, rb, by rw [e]; exact z⟩
  cases a with
  | c n => exact other rfl
  | d a =>
    cases a with
    | ins c' fs =>
      unfold dunEq at z
      simp only [] at z
      by_cases hc : c' = c
      · subst hc
        rw [if_pos rfl] at z
        obtain ⟨t, ht, z⟩ := res_ty w rb z
        by_cases hm : t ∈ tys
        · rw [if_pos hm] at z
          cases ra with
          | ins ha rs =>
          cases rx
          obtain ⟨ox, od, J⟩ := inst_of I (w.sub _ _ ha)
          obtain ⟨mF, hF⟩ := I.fr
          show wpAny (model X.prog X.w) X.A (richCompare .Eq _ u) (EP X pins σ Q) X.xe s
          refine PySem.W.cmp_K (op := .Eq) hr.room.units0 hF I.ok.mod.kin J (ht.looks I ry) (hn t hm) hs.at_ hs.fn ?_
          exact wpAny_mono (run_dun (vs := [V.ref _, y]) G hr I.env0 I (.cons rfl (.cons ry .nil)) rfl w (.cons (x := .d (.ins _ _)) (Rep.ins ha rs) (.cons rb .nil)) z) (fun _ _ h => cmpBack h) fun _ _ h => h
        · rw [if_neg hm] at z; exact z.elim
      · rw [if_neg hc] at z; exact z.elim
    | _ => exact other rfl
section
variable {prog : Program} {w : World} {A : Around} {E : Value → Shared → Prop} {s : Shared} {K : Frag} {x C L f : Addr} {h₀ : Heap} {m : Str → Option Value} {ox : Obj} {od : Option Obj} {b tb : Value} {Q : Value → Shared → Prop}
/-- object.__ne__ asks == and turns its answer -/
theorem ne_slot (hu : A.units + 1 < cLine) (X : K.In s.heap) (I : PySem.W.InstAt s.heap x ox C od) (he : PySem.W.findIn K (.ref C) "__eq__" = some (some (.ref f))) (hf : PySem.W.isFn K (.ref f) = true)
    (ho : PySem.W.subIn K (.ref C) (.type "object") = some true) (h : wpAny (model prog w) A.in1 (call (.ref f) [.ref x, b]) (fun v s' => ∃ k, v = .bool k ∧ Q (.bool (!k)) s') E s) :
    wpAny (model prog w) A (call (.builtin "object.__ne__") [.ref x, b]) (fun v s' => ∃ k, v = .bool k ∧ Q (.bool k) s') E s := by
  refine wpAny_call (codeAny_call_builtin PySem.F.cmp_object.ne.plain PySem.F.cmpEntry_ne (PySem.W.check_slot PySem.F.cmpKind_ne PySem.F.cmpSplit_ne (I.type.andThen (PySem.W.looks_subIn X ho)) (PySem.F.cmpArgs_ne _ _) ?_))
  simp only [Builtin.«object.__ne__»]
  exact wpAny_bind (wpAny_of_eq (a := ((Value.ref x : Value), [b])) (by simp only [slotArgs]; rfl) (wpAny_bind (wpAny_cRoomFor hu (wpAny_bind (PySem.W.ifBound_K X I he hf (wpAny_mono h (by
    rintro _ s' ⟨k, rfl, q⟩
    exact wpAny_bind (wpAny_truthy_bool (wpAny_pure ⟨_, rfl, q⟩))) fun _ _ e => e))))))
/-- where != is looked for: the slot of object, bound to the thing -/
theorem ne_bound (X : K.In s.heap) (I : PySem.W.InstAt s.heap x ox C od) (hs : PySem.W.findIn K (.ref C) "__ne__" = some (some (.builtin "object.__ne__"))) {R : Option (Value × List Value) → Shared → Prop}
    (h : R (some (.builtin "object.__ne__", [.ref x])) s) : wpAny (model prog w) A (bindSpecialIfBound? (.ref x) "__ne__") R E s := by
  simp only [bindSpecialIfBound?]
  refine wpAny_bind (wpAny_bind (I.type.here ((PySem.W.looks_findIn X hs).here (wpAny_bind (wpAny_askSetting (wpAny_ite ?_))))))
  rw [PySem.F.cmp_object.ne.bind]
  split
  · exact wpAny_bind (wpAny_pure (wpAny_pure h))
  · exact wpAny_tryCatch (wpAny_bind (wpAny_pure (wpAny_pure h)))
/-- the try at __ne__, from what the slot answers -/
theorem ne_try (X : K.In s.heap) (I : PySem.W.InstAt s.heap x ox C od) (hs : PySem.W.findIn K (.ref C) "__ne__" = some (some (.builtin "object.__ne__")))
    (h : wpAny (model prog w) A (call (.builtin "object.__ne__") [.ref x, b]) (fun v s' => ∃ k, v = .bool k ∧ Q (.bool k) s') E s) :
    wpAny (model prog w) A (tryCompare (.ref x) "__ne__" b) (fun r s' => ∃ v, r = some v ∧ Q v s') E s := by
  simp only [tryCompare, callSpecialIfBound?]
  refine wpAny_bind (wpAny_holding (wpAny_bind (ne_bound X I hs (wpAny_bind (wpAny_mono h ?_ fun _ _ e => e)))))
  rintro _ s' ⟨k, rfl, q⟩
  exact wpAny_pure (wpAny_pure ⟨_, rfl, q⟩)
/-- != where the class has == alone: the other side's type asks for no turn -/
theorem ne_K {h₀ : Heap} (hu : A.units + 1 < cLine) (F : Fr h₀ L s.heap m) (X₀ : K.In h₀) (I : PySem.W.InstAt s.heap x ox C od)
    (hb : PySem.W.Looks (model prog w) s.heap (typeOf b) tb) (hn : PySem.W.notFirst K C tb = true) (hs : PySem.W.findIn K (.ref C) "__ne__" = some (some (.builtin "object.__ne__"))) (he : PySem.W.findIn K (.ref C) "__eq__" = some (some (.ref f))) (hf : PySem.W.isFn K (.ref f) = true)
    (ho : PySem.W.subIn K (.ref C) (.type "object") = some true)
    (h : wpAny (model prog w) A.in1 (call (.ref f) [.ref x, b]) (fun v s' => ∃ k, v = .bool k ∧ Q (.bool (!k)) s') E s) : wpAny (model prog w) A (richCompare .NotEq (.ref x) b) Q E s := by
  have X := X₀.keeps F.keep
  have tried := ne_try X I hs (ne_slot hu X I he hf ho h)
  have last : ∀ G : Option Value → Sem Value, (∀ v, G (some v) = pure v) → wpAny (model prog w) A (tryCompare (.ref x) "__ne__" b >>= G) Q E s := fun G e =>
    wpAny_bind (wpAny_mono tried (by rintro _ s' ⟨v, rfl, q⟩; rw [e]; exact wpAny_pure q) fun _ _ e => e)
  simp only [richCompare, oneThing_ref]
  refine wpAny_holding (wpAny_bind (wpAny_cRoomFor (Nat.lt_of_succ_lt hu) (wpAny_bind (I.type.here (wpAny_bind (hb.here ?_))))))
  split
  · rename_i q
    have other : PySem.W.subIn K tb (.ref C) = some false := by
      cases (Bool.or_eq_true_iff.mp hn).symm with
      | inl e => exact eq_of_beq e
      | inr e => simp [eq_of_beq e] at q
    refine wpAny_bind ((PySem.W.looks_subIn X other).here ?_)
    rw [if_neg Bool.false_ne_true]
    exact last _ fun _ => rfl
  · refine wpAny_bind (wpAny_pure ?_)
    rw [if_neg Bool.false_ne_true]
    exact last _ fun _ => rfl
end
end
end Dz

/-! Dz12: !=, in, binary and unary operators by own methods; bool(x); isinstance with own classes. -/
namespace Dz
open PySem PySem.Spec PyProof.Rows L2
section
variable {X : Cx} {c : Str} {tys : List Ty} {φ : List Vl → M Vl} {g : Vl → Vl → M Vl} {k : Nat} {f : Addr}
theorem notB_of {K : Frag} {F G H : Hp} {m : List Addr} {S : Sto} {x : Vl} {v : V} {Q : VK} (w : Wd K F m G S H) (r : RepV K F m x v) (h : res K Er (rV K) F m G (notB x S) Q) : ∃ b, v = .bl b ∧ Q (.bl (!b)) H := by
  unfold notB at h
  split at h
  · cases r
    exact ⟨_, rfl, res_ok w (.bl _) h⟩
  · exact h.elim
theorem isB_of {K : Frag} {F G H : Hp} {m : List Addr} {S : Sto} {x : Vl} {v : V} {Q : VK} (w : Wd K F m G S H) (r : RepV K F m x v) (h : res K Er (rV K) F m G (isB x S) Q) : ∃ b, v = .bl b ∧ Q (.bl b) H := by
  unfold isB at h
  split at h
  · cases r
    exact ⟨_, rfl, res_ok w (.bl _) h⟩
  · exact h.elim
structure NeC (K : Frag) (c : Str) : Prop where
  ne : PySem.W.findIn K (.ref (He.ga K c)) "__ne__" = some (some (.builtin "object.__ne__"))
  ob : PySem.W.subIn K (.ref (He.ga K c)) (.type "object") = some true
theorem om_dunNe (hb : OpM X Er (compareOp .NotEq) g) (hs : DunC X.K c "__eq__" f) (hne : NeC X.K c) (hn : ∀ t ∈ tys, PySem.W.notFirst X.K (He.ga X.K c) (t.val X.K) = true) (G : FnG X.prog X.w X.K X.mg X.base (CX X.prog X.w) k 2 f (spM X.K 2 φ)) (hr : Rm (k + 1) X.A) :
    OpM X Er (compareOp .NotEq) (dunNe c tys φ g) := fun pins s σ H x y v u Q I rx ry ⟨F, m, Gh, S, a, b, w, ra, rb, z⟩ => by
  have other : g a b S = dunNe c tys φ g a b S → wpAny (model X.prog X.w) X.A (compareOp .NotEq v u) (EP X pins σ Q) X.xe s := fun e => hb pins s σ H x y v u Q I rx ry ⟨F, m, Gh, S, a, b, w, ra, rb, by rw [e]; exact z⟩
  cases a with
  | c n => exact other rfl
  | d a =>
    cases a with
    | ins c' fs =>
      unfold dunNe at z
      simp only [] at z
      by_cases hc : c' = c
      · subst hc
        rw [if_pos rfl] at z
        obtain ⟨t, ht, z⟩ := res_ty w rb z
        by_cases hm : t ∈ tys
        · rw [if_pos hm] at z
          have z := res_bnd (A := rV X.K) z
          cases ra with
          | ins ha rs =>
          cases rx
          obtain ⟨ox, od, J⟩ := inst_of I (w.sub _ _ ha)
          obtain ⟨mF, hF⟩ := I.fr
          show wpAny (model X.prog X.w) X.A (richCompare .NotEq _ u) (EP X pins σ Q) X.xe s
          have hu := hr.room.un
          refine ne_K (by omega) hF I.ok.mod.kin J (ht.looks I ry) (hn t hm) hne.ne hs.at_ hs.fn hne.ob ?_
          refine wpAny_mono (run_dun (vs := [V.ref _, y]) G hr.in1 I.env0.in1 I (.cons rfl (.cons ry .nil)) rfl w (.cons (x := .d (.ins _ _)) (Rep.ins ha rs) (.cons rb .nil)) z) (fun r s' h => ?_) fun _ _ h => h
          obtain ⟨v1, H1, I1, r1, F1, m1, S1, a1, e1, w1, ra1, q1⟩ := h
          obtain ⟨b1, rfl, q⟩ := notB_of w1 ra1 q1
          obtain rfl : r = Value.bool b1 := r1
          exact ⟨b1, rfl, .bl (!b1), H1, I1, rfl, q⟩
        · rw [if_neg hm] at z; exact z.elim
      · rw [if_neg hc] at z; exact z.elim
    | _ => exact other rfl
theorem om_dunIn (hb : OpM X Er (compareOp .In) g) (hs : DunC X.K c "__contains__" f) (G : FnG X.prog X.w X.K X.mg X.base (CX X.prog X.w) k 2 f (spM X.K 2 φ)) (hr : Rm k X.A) :
    OpM X Er (compareOp .In) (dunIn c φ g) := fun pins s σ H x y v u Q I rx ry ⟨F, m, Gh, S, a, b, w, ra, rb, z⟩ => by
  have other : g a b S = dunIn c φ g a b S → wpAny (model X.prog X.w) X.A (compareOp .In v u) (EP X pins σ Q) X.xe s := fun e => hb pins s σ H x y v u Q I rx ry ⟨F, m, Gh, S, a, b, w, ra, rb, by rw [e]; exact z⟩
  cases b with
  | c n => exact other rfl
  | d b =>
    cases b with
    | ins c' fs =>
      unfold dunIn at z
      simp only [] at z
      by_cases hc : c' = c
      · subst hc
        rw [if_pos rfl] at z
        have z := res_bnd (A := rV X.K) z
        cases rb with
        | ins ha rs =>
        cases ry
        obtain ⟨ox, od, J⟩ := inst_of I (w.sub _ _ ha)
        obtain ⟨mF, hF⟩ := I.fr
        refine PySem.W.in_K hF I.ok.mod.kin J hs.at_ hs.fn ?_
        refine wpAny_mono (run_dun (vs := [V.ref _, x]) G hr I.env0 I (.cons rfl (.cons rx .nil)) rfl w (.cons (x := .d (.ins _ _)) (Rep.ins ha rs) (.cons ra .nil)) z) (fun r s' h => ?_) fun _ _ h => h
        obtain ⟨v1, H1, I1, r1, F1, m1, S1, a1, e1, w1, ra1, q1⟩ := h
        obtain ⟨b1, rfl, q⟩ := isB_of w1 ra1 q1
        obtain rfl : r = Value.bool b1 := r1
        exact wpAny_truthy_bool ⟨.bl b1, H1, I1, rfl, q⟩
      · rw [if_neg hc] at z; exact z.elim
    | _ => exact other rfl
theorem om_dunNi (hb : OpM X Er (compareOp .NotIn) g) (hs : DunC X.K c "__contains__" f) (G : FnG X.prog X.w X.K X.mg X.base (CX X.prog X.w) k 2 f (spM X.K 2 φ)) (hr : Rm k X.A) :
    OpM X Er (compareOp .NotIn) (dunNi c φ g) := fun pins s σ H x y v u Q I rx ry ⟨F, m, Gh, S, a, b, w, ra, rb, z⟩ => by
  have other : g a b S = dunNi c φ g a b S → wpAny (model X.prog X.w) X.A (compareOp .NotIn v u) (EP X pins σ Q) X.xe s := fun e => hb pins s σ H x y v u Q I rx ry ⟨F, m, Gh, S, a, b, w, ra, rb, by rw [e]; exact z⟩
  cases b with
  | c n => exact other rfl
  | d b =>
    cases b with
    | ins c' fs =>
      unfold dunNi at z
      simp only [] at z
      by_cases hc : c' = c
      · subst hc
        rw [if_pos rfl] at z
        have z := res_bnd (A := rV X.K) z
        cases rb with
        | ins ha rs =>
        cases ry
        obtain ⟨ox, od, J⟩ := inst_of I (w.sub _ _ ha)
        obtain ⟨mF, hF⟩ := I.fr
        refine PySem.W.notIn_K hF I.ok.mod.kin J hs.at_ hs.fn ?_
        refine wpAny_mono (run_dun (vs := [V.ref _, x]) G hr I.env0 I (.cons rfl (.cons rx .nil)) rfl w (.cons (x := .d (.ins _ _)) (Rep.ins ha rs) (.cons ra .nil)) z) (fun r s' h => ?_) fun _ _ h => h
        obtain ⟨v1, H1, I1, r1, F1, m1, S1, a1, e1, w1, ra1, q1⟩ := h
        obtain ⟨b1, rfl, q⟩ := notB_of w1 ra1 q1
        obtain rfl : r = Value.bool b1 := r1
        exact wpAny_truthy_bool ⟨.bl (!b1), H1, I1, rfl, q⟩
      · rw [if_neg hc] at z; exact z.elim
    | _ => exact other rfl
/-- a & b and the like, both of the class -/
theorem om_dunBin {op : Operator} (hb : OpM X Er (binaryOp op) g) (hs : DunC X.K c (PySem.dunder op.info.2) f) (hc1 : PySem.W.selfFirst X.K (He.ga X.K c) = true) (G : FnG X.prog X.w X.K X.mg X.base (CX X.prog X.w) k 2 f (spM X.K 2 φ)) (eo : ErOk X Er E) (hr : Rm k X.A) :
    OpM X Er (binaryOp op) (dunBin c φ g) := fun pins s σ H x y v u Q I rx ry ⟨F, m, Gh, S, a, b, w, ra, rb, z⟩ => by
  have other : g a b S = dunBin c φ g a b S → wpAny (model X.prog X.w) X.A (binaryOp op v u) (EP X pins σ Q) X.xe s := fun e => hb pins s σ H x y v u Q I rx ry ⟨F, m, Gh, S, a, b, w, ra, rb, by rw [e]; exact z⟩
  cases a with
  | c n => exact other rfl
  | d a =>
    cases a with
    | ins c1 fs =>
      cases b with
      | c n => exact z.elim
      | d b =>
        cases b with
        | ins c2 gs =>
          unfold dunBin at z
          simp only [] at z
          by_cases hc : c1 = c ∧ c2 = c
          · rw [if_pos hc] at z
            obtain ⟨rfl, rfl⟩ := hc
            cases ra with
            | ins ha rs =>
            cases rb with
            | ins hb' ts =>
            cases rx
            cases ry
            obtain ⟨ox, od, J⟩ := inst_of I (w.sub _ _ ha)
            obtain ⟨oy, oe, J2⟩ := inst_of I (w.sub _ _ hb')
            obtain ⟨mF, hF⟩ := I.fr
            refine PySem.W.binop_K hF I.ok.mod.kin J J2.type hc1 hs.at_ hs.fn ?_
            exact wpAny_mono (run_dunE (vs := [V.ref _, V.ref _]) G eo hr I.env0 I (.cons rfl (.cons rfl .nil)) rfl w (.cons (x := .d (.ins _ _)) (Rep.ins ha rs) (.cons (x := .d (.ins _ _)) (Rep.ins hb' ts) .nil)) z) (fun _ _ h => cmpBack h) fun _ _ h => h
          · rw [if_neg hc] at z; exact z.elim
        | _ => exact z.elim
    | _ => exact other rfl
/-- no operator but the own ones -/
def g0 : Vl → Vl → M Vl := fun _ _ => stuck
theorem om_0 {f : Value → Value → Sem Value} : OpM X Er f g0 := fun pins s σ H x y v u Q I rx ry ⟨F, m, Gh, S, a, b, w, ra, rb, z⟩ => z.elim
/-- ~a -/
def dunUn (c : Str) (φ : List Vl → M Vl) (a : Vl) : M Vl := match a with
  | .d (.ins c' fs) => if c' = c then φ [.d (.ins c' fs)] else stuck
  | _ => stuck
theorem um_inv (hs : DunC X.K c "__invert__" f) (G : FnG X.prog X.w X.K X.mg X.base (CX X.prog X.w) k 1 f (spM X.K 1 φ)) (eo : ErOk X Er E) (hr : Rm k X.A) : UnR X (unaryOp .Invert) (RUM X.K Er (dunUn c φ)) := fun pins s σ H x v Q I rx ⟨F, m, Gh, S, a, w, ra, z⟩ => by
  cases a with
  | c n => exact z.elim
  | d a =>
    cases a with
    | ins c' fs =>
      unfold dunUn at z
      simp only [] at z
      by_cases hc : c' = c
      · subst hc
        rw [if_pos rfl] at z
        cases ra with
        | ins ha rs =>
        cases rx
        obtain ⟨ox, od, J⟩ := inst_of I (w.sub _ _ ha)
        obtain ⟨mF, hF⟩ := I.fr
        refine PySem.W.ksp_inv hF I.ok.mod.kin J hs.at_ hs.fn ?_
        exact run_dunE (vs := [V.ref _]) G eo hr I.env0 I (.cons rfl .nil) rfl w (.cons (x := .d (.ins _ _)) (Rep.ins ha rs) .nil) z
      · rw [if_neg hc] at z; exact z.elim
    | _ => exact z.elim
/-! ### bool(x) -/
theorem meets_bool_any {prog : Program} {w : World} (x : Value) : MeetsIn prog w (Builtin.«bool.__new__» ⟨[.type "bool", x], []⟩)
    (fun A R s => wpAny (model prog w) A.in1 (truthy x) (fun b s1 => R (.ok (.ret (.bool b))) s1) (fun e s1 => R (.error e) s1) s) :=
  .of_wp fun A R s h => by
    have f1 := F.conv_sub_bool
    unfold Builtin.«bool.__new__»
    repeat (first | assumption | (with_reducible refine wpAny_bind (m := truthy x) (wpAny_mono h (fun b s1 hb => ?_) fun _ _ e => e)) | wp_step)
    all_goals first | exact wpAny_pure ⟨_, rfl, hb⟩ | exact ⟨_, rfl, hb⟩ | skip
end
end Dz

/-! Dz13: bool(x), isinstance with own classes, repr of data. -/
namespace Dz
open PySem PySem.Spec PyProof.Rows L2
section
variable {X : Cx} {c : Str} {φ : List Vl → M Vl} {k : Nat} {f : Addr}
/-! ### bool(x) -/
def tBool0 (xs : List Vl) : M Vl := match xs with
  | [.d (.int i)] => pur (.d (.bl (i != 0)))
  | [.d (.bl b)] => pur (.d (.bl b))
  | [.d (.lst ds)] => pur (.d (.bl (!ds.isEmpty)))
  | [.c n] => bnd (getC n) fun ds => pur (.d (.bl (!ds.isEmpty)))
  | _ => stuck
theorem isEmpty_reps {K : Frag} {F : Hp} {ds : List D} {vs : List V} (r : Reps K F ds vs) : vs.isEmpty = ds.isEmpty := by cases r <;> rfl
theorem cm_bool0 : CallM X Er (.type "bool") tBool0 := callM_of (call_bool1.or call_boolL) fun F m G S H xs vs Q w rs z => by
  unfold tBool0 at z
  split at z
  · cases rs with
    | cons r1 r2 =>
    cases r2
    cases r1
    exact .inl (.inl ⟨_, rfl, res_ok w (.bl _) z⟩)
  · cases rs with
    | cons r1 r2 =>
    cases r2
    cases r1
    exact .inl (.inr ⟨_, rfl, res_ok w (.bl _) z⟩)
  · cases rs with
    | cons r1 r2 =>
    cases r2
    cases r1 with
    | lst ha r =>
    refine .inr ⟨_, _, rfl, w.sub.seq (SqL.of ha), ?_⟩
    rw [isEmpty_reps r]
    exact res_ok w (.bl _) z
  · cases rs with
    | cons r1 r2 =>
    cases r2
    obtain ⟨a, xs, vs, rfl, hm, hS, ho, r, z⟩ := res_getC w r1 z
    refine .inr ⟨_, _, rfl, SqL.of ho, ?_⟩
    rw [isEmpty_reps r]
    exact res_ok w (.bl _) z
  · exact z.elim
/-- .. by an own class's __bool__ -/
def tBoolX (c : Str) (φ : List Vl → M Vl) (g : List Vl → M Vl) (xs : List Vl) : M Vl := match xs with
  | [.d (.ins c' fs)] => if c' = c then bnd (noE (φ [.d (.ins c' fs)])) isB else stuck
  | xs => g xs
theorem cm_boolX {g : List Vl → M Vl} (hb : CallM X Er (.type "bool") g) (hs : DunC X.K c "__bool__" f) (G : FnG X.prog X.w X.K X.mg X.base (CX X.prog X.w) k 1 f (spM X.K 1 φ)) (hr : Rm (k + 2) X.A) : CallM X Er (.type "bool") (tBoolX c φ g) := fun pins s σ H vs us Q I rx ⟨F, m, Gh, S, xs, w, ra, z⟩ => by
  have other : g xs S = tBoolX c φ g xs S → wpAny (model X.prog X.w) X.A (call (.type "bool") us) (EP X pins σ Q) X.xe s := fun e => hb pins s σ H vs us Q I rx ⟨F, m, Gh, S, xs, w, ra, by rw [e]; exact z⟩
  cases xs with
  | nil => exact other rfl
  | cons x xs =>
    cases xs with
    | cons y ys => cases x with
      | c n => exact other rfl
      | d x => cases x <;> exact other rfl
    | nil =>
      cases x with
      | c n => exact other rfl
      | d x =>
        cases x with
        | ins c' fs =>
          unfold tBoolX at z
          simp only [] at z
          by_cases hc : c' = c
          · subst hc
            rw [if_pos rfl] at z
            have z := res_bnd (A := rV X.K) z
            cases ra with
            | cons r1 r2 =>
            cases r2
            cases r1 with
            | ins ha rs =>
            rw [Vals.ref1 rx]
            obtain ⟨ox, od, J⟩ := inst_of I (w.sub _ _ ha)
            obtain ⟨mF, hF⟩ := I.fr
            refine callType_newIn PySem.F.called_bool PySem.F.newNe_bool (PySem.F.typeCall_bool_1 _) (PySem.F.newCall_bool_1 _) (fun obj => PySem.F.args_object_init_2 obj _) PySem.F.entry_bool_new (meets_bool_any _) ?_
            refine PySem.W.truthy_K hF I.ok.mod.kin J hs.at_ hs.fn ?_
            refine wpAny_mono (run_dun (vs := [V.ref _]) G hr.in1.in1 I.env0.in1.in1 I (.cons rfl .nil) rfl w (.cons (x := .d (.ins _ _)) (Rep.ins ha rs) .nil) z) (fun r s' h => ?_) fun _ _ h => h
            obtain ⟨v1, H1, I1, r1, F1, m1, S1, a1, e1, w1, ra1, q1⟩ := h
            obtain ⟨b1, rfl, q⟩ := isB_of w1 ra1 q1
            obtain rfl : r = Value.bool b1 := r1
            exact ⟨by first | rfl | exact typeIs_bool _ _, .bl b1, H1, I1, rfl, q⟩
          · rw [if_neg hc] at z; exact z.elim
        | _ => exact other rfl
/-! ### isinstance -/
structure ClsF (K : Frag) (c : Str) : Prop where
  cls : Cls K (He.ga K c)
  ca : PySem.W.findIn K (.ref (He.ga K c)) "__class__" = some (some (.builtin "object.__class__"))
  hn : PySem.W.specialIn K (.builtin "object.__class__") "__get__" = some (some (.builtin "getset_descriptor.__get__"))
  tk : PySem.W.takesIn K (.builtin "object.__class__") = some true
  hm : PySem.W.mroIn K (He.ga K c) (.type "object") = some true
abbrev Tab := List (Ty × Ty × Bool)
def tabAt : Tab → Ty → Ty → Option Bool
  | [], _, _ => none
  | (t, u, b) :: r, t', u' => if t = t' ∧ u = u' then some b else tabAt r t' u'
def TabOk (K : Frag) (tab : Tab) : Prop := ∀ p ∈ tab, PySem.W.kitOne K (p.1.val K) (p.2.1.val K) = some p.2.2
theorem tabAt_ok {K : Frag} {t u : Ty} {b : Bool} : ∀ {tab : Tab}, TabOk K tab → tabAt tab t u = some b → PySem.W.kitOne K (t.val K) (u.val K) = some b
  | [], _, h => by cases h
  | (t', u', b') :: r, ok, h => by
    unfold tabAt at h
    split at h
    · rename_i e
      obtain ⟨rfl, rfl⟩ := e
      cases h
      exact ok _ List.mem_cons_self
    · exact tabAt_ok (fun p hp => ok p (List.mem_cons_of_mem _ hp)) h
def clT : D → Option Ty
  | .ty T => some (.bt T)
  | .cls c => some (.ow c)
  | _ => none
def isQ (tab : Tab) (t u : Ty) : Option Bool := match t, u with
  | .bt a, .bt b => kitB a b
  | t, u => tabAt tab t u
def tyIn (cs : List Str) : Ty → Bool
  | .bt _ => true
  | .ow c => decide (c ∈ cs)
def bIsiX (cs : List Str) (tab : Tab) (xs : List Vl) : M Vl := match xs with
  | [x, .d y] => bnd (tyM x) fun t => if tyIn cs t = true then opt (clT y) fun u => opt (isQ tab t u) fun b => pur (.d (.bl b)) else stuck
  | _ => stuck
theorem isQ_ok {K : Frag} {tab : Tab} {t u : Ty} {b : Bool} (ok : TabOk K tab) (h : isQ tab t u = some b) : PySem.W.kitOne K (t.val K) (u.val K) = some b := by
  cases t with
  | ow c => exact tabAt_ok ok h
  | bt a =>
    cases u with
    | ow c => exact tabAt_ok ok h
    | bt b => exact kit_ty h
theorem TyR.tyX {K : Frag} {H : Hp} {v : V} {t : Ty} {cs : List Str} (h : TyR K H v t) (hc : ∀ c ∈ cs, ClsF K c) (hi : tyIn cs t = true) : TyX K H v (t.val K) := by
  cases h with
  | bt h => exact h
  | ow e ha =>
    subst e
    have k := hc _ (of_decide_eq_true hi)
    exact .base (.ins ha k.cls k.ca k.hn k.tk k.hm)
theorem cm_isiX {cs : List Str} {tab : Tab} (hc : ∀ c ∈ cs, ClsF X.K c) (ok : TabOk X.K tab) : CallM X Er (.builtin "isinstance") (bIsiX cs tab) := callM_of call_isi fun F m G S H xs vs Q w rs z => by
  unfold bIsiX at z
  split at z
  · rename_i x y
    cases rs with
    | cons r1 r2 =>
    cases r2 with
    | cons r2 r3 =>
    cases r3
    obtain ⟨t, ht, z⟩ := res_ty w r1 z
    by_cases hi : tyIn cs t = true
    · rw [if_pos hi] at z
      obtain ⟨u, hu, z1⟩ := res_opt z
      obtain ⟨b, hb, z2⟩ := res_opt z1
      have e := isQ_ok ok hb
      clear z z1
      have tx := ht.tyX hc hi
      cases y with
      | ty T => cases hu; cases r2; exact ⟨_, _, _, _, b, rfl, .ty _, tx, e, res_ok (A := rV X.K) (a := .d (.bl b)) w (Rep.bl _) z2⟩
      | cls c => cases hu; cases r2; exact ⟨_, _, _, _, b, rfl, .own _, tx, e, res_ok (A := rV X.K) (a := .d (.bl b)) w (Rep.bl _) z2⟩
      | _ => cases hu
    · rw [if_neg hi] at z; exact z.elim
  · exact z.elim
/-! ### repr -/
def shwOk (p : PyData) : Bool := PyData.showable p && (!PyData.hasDict p && (decide (PyData.depth p ≤ 100) && decide (p.shown.length ≤ 100000)))
def bReprX (xs : List Vl) : M Vl := match xs with
  | [.d x] => opt (pyOf x) fun p => if shwOk p = true then pur (.d (.str p.shown)) else stuck
  | _ => stuck
theorem cm_reprX (hr : Rm k X.A) : CallM X Er (.builtin "repr") bReprX := fun pins s σ H vs us Q I rx ⟨F, m, Gh, S, xs, w, ra, z⟩ => by
  unfold bReprX at z
  split at z
  · rename_i x
    cases ra with
    | cons r1 r2 =>
    cases r2
    obtain ⟨p, hp, z⟩ := res_opt z
    by_cases hs : shwOk p = true
    · rw [if_pos hs] at z
      unfold shwOk at hs
      simp only [Bool.and_eq_true, Bool.not_eq_true', decide_eq_true_eq] at hs
      obtain ⟨h1, h2, h3, h4⟩ := hs
      have dp := pyOf_dp w.sub r1 hp
      obtain ⟨u, rfl, ru⟩ := vals1 rx
      have q := res_ok w (.str _) z
      have sz : p.shown.length ≤ sizeLine := sz5 h4
      have hu := hr.room.un
      obtain ⟨as, rd⟩ := dp.reads I _ _ _ ru
      have fin : ∀ h' tk, (∀ b o, s.heap.get? b = some o → h'.get? b = some o) → ∀ t, EP X pins σ Q (.str p.shown t) { s with heap := h', toks := tk } := fun h' tk hk t => ⟨.str _, H, I.kept hk, ⟨t, rfl⟩, q⟩
      cases rd with
      | none => exact PySem.P.repr_of_none (fin _ _ (fun _ _ e => e) _)
      | bool b => exact PySem.P.repr_of_bool (fin _ _ (fun _ _ e => e) _)
      | int i t => exact PySem.P.repr_of_int (of_decide_eq_true h1) (fin _ _ (fun _ _ e => e) _)
      | str x t => exact PySem.P.repr_of_str (fin _ _ (fun _ _ e => e) _) sz
      | list a b c d => exact repr_of_reads' (.list a b c d) h1 (PyData.noDict_hsm h2) hr.gd (by omega) (fun _ _ e => e) (fun h' u tk hk => fin h' tk hk u) sz
      | tuple a b c d => exact repr_of_reads' (.tuple a b c d) h1 (PyData.noDict_hsm h2) hr.gd (by omega) (fun _ _ e => e) (fun h' u tk hk => fin h' tk hk u) sz
      | dict a b c d e => cases h2
    · rw [if_neg hs] at z; exact z.elim
  · exact z.elim
end
end Dz

/-! Dz14: what the top leaves, read by a hook of our own: defs (globals, methods, getters, class methods), classes, constants. -/
namespace Dz
open PySem PySem.Spec PyProof.Rows L2
/-! ### where a def stands -/
inductive Ad where
  | g (x : Str) | m (c f : Str) | p (c f : Str) | k (c f : Str)
def recF (K : Frag) (a : Addr) (T : String) : Addr := match PySem.W.recIn K a T with
  | some (.ref g :: _) => g
  | _ => 0
def Ad.at (K : Frag) : Ad → Addr
  | .g x => He.ga K x
  | .m c f => He.ma K (He.ga K c) f
  | .p c f => recF K (He.ma K (He.ga K c) f) "property"
  | .k c f => recF K (He.ma K (He.ga K c) f) "classmethod"
structure DefZ where
  ad : Ad
  name : Str
  qual : Str
  params : Arguments
  body : List Stmt
  scope : Scope
/-- the def that an object is, if it is one -/
def defOf : Obj → Option FuncData
  | ⟨_, _, .func f, _⟩ => some f
  | _ => none
/-- the def that stands at an address -/
def defAt (K : Frag) (a : Addr) : Option FuncData := (K.lookup a).bind defOf
/-- what a hook reads of a def -/
def face (f : FuncData) : He.FnW :=
  some (f.name, f.qualname, f.params, f.body,
    f.scope, f.globals, f.closure, f.builtins)
def fnZ (K : Frag) (a : Addr) : He.FnW := (defAt K a).bind face
def DefZ.val (d : DefZ) : He.FnW := some (d.name, d.qual, d.params, .stmts d.body, d.scope, mainGlobals, [], builtinsNs)
/-- a def with no default at all, and its own code -/
def plainDef (K : Frag) (q : Str) (f : FuncData) : Bool := PySem.W.codeIn K f.code q && (He.dflB K f.defaults [] && He.kwdB K f.kwdefaults [])
def DefZ.ok (K : Frag) (d : DefZ) : Bool := (defAt K (d.ad.at K)).any (plainDef K d.qual)
theorem defAt_get {K : Frag} {a : Addr} {f : FuncData} (e : defAt K a = some f) : ∃ c d sl, K.lookup a = some ⟨c, d, .func f, sl⟩ := by
  obtain ⟨⟨c, d, t, sl⟩, q, e⟩ := Option.bind_eq_some_iff.mp e
  cases t with
  | func g => cases e; exact ⟨c, d, sl, q⟩
  | _ => cases e
theorem DefZ.funD {K : Frag} {d : DefZ} (e : fnZ K (d.ad.at K) = d.val) (c : d.ok K = true) : ∃ fd, FunD K d.name d.qual d.params d.body d.scope [] [] (d.ad.at K) fd := by
  obtain ⟨ad, name, qual, params, body, scope⟩ := d
  obtain ⟨f, q, e⟩ := Option.bind_eq_some_iff.mp e
  have c : plainDef K qual f = true := by
    unfold DefZ.ok at c
    rw [q] at c
    exact c
  obtain ⟨oc, od, osl, l⟩ := defAt_get q
  cases f
  cases e
  obtain ⟨code, kinds⟩ := He.ba c
  obtain ⟨dfl, kwd⟩ := He.ba kinds
  refine ⟨_, ⟨oc, od, _, _, _, _, _, _, _, osl, rfl, l, code, He.dflB_ok dfl, He.kwdB_ok kwd⟩, ?_⟩
  unfold PySem.W.keepIn
  simp only [l]
/-! ### data among the written objects -/
mutual
def repB (K : Frag) : D → Value → Bool
  | .non, .none => true
  | .bl b, .bool c => b == c
  | .int i, .int j _ => i == j
  | .str i, .str j _ => i == j
  | .tup ds, .ref a => match K.lookup a with
    | some ⟨.type c, _, .seq its _, _⟩ => decide (c = "tuple") && (decide (its.size ≤ sizeLine) && repBs K ds its.toList)
    | _ => false
  | _, _ => false
def repBs (K : Frag) : List D → List Value → Bool
  | [], [] => true
  | d :: ds, u :: us => repB K d u && repBs K ds us
  | _, _ => false
end
mutual
theorem repB_ok {K : Frag} : ∀ {d : D} {u : Value}, repB K d u = true → ∃ v, RelV v u ∧ ∀ F, Rep K F d v
  | .non, u, h => by
    cases u <;> first | cases h | skip
    exact ⟨.non, rfl, fun _ => .non⟩
  | .bl b, u, h => by
    cases u <;> first | cases h | skip
    cases eq_of_beq h
    exact ⟨.bl b, rfl, fun _ => .bl b⟩
  | .int i, u, h => by
    cases u <;> first | cases h | skip
    cases eq_of_beq h
    exact ⟨.int i, ⟨_, rfl⟩, fun _ => .int i⟩
  | .str i, u, h => by
    cases u <;> first | cases h | skip
    cases eq_of_beq h
    exact ⟨.str i, ⟨_, rfl⟩, fun _ => .str i⟩
  | .tup ds, u, h => by
    cases u <;> first | cases h | skip
    rename_i a
    unfold repB at h
    cases q : K.lookup a with
    | none => rw [q] at h; cases h
    | some o =>
      obtain ⟨oc, od, dt, osl⟩ := o
      rw [q] at h
      cases oc with
      | type c =>
        cases dt with
        | seq its n =>
          obtain ⟨h1, h2⟩ := He.ba (show (decide (c = "tuple") && (decide (its.size ≤ sizeLine) && repBs K ds its.toList)) = true from h)
          obtain ⟨h3, h4⟩ := He.ba h2
          obtain ⟨vs, r, rs⟩ := repBs_ok h4
          exact ⟨.ref a, rfl, fun F => .tup (.inr ⟨_, its, n, q, congrArg Value.type (of_decide_eq_true h1), rfl, of_decide_eq_true h3, r⟩) (rs F)⟩
        | _ => cases h
      | _ => cases dt <;> cases h
  | .ty _, u, h => by cases u <;> cases h
  | .lst _, u, h => by cases u <;> cases h
  | .scr _, u, h => by cases u <;> cases h
  | .dct _, u, h => by cases u <;> cases h
  | .ins _ _, u, h => by cases u <;> cases h
  | .cls _, u, h => by cases u <;> cases h
theorem repBs_ok {K : Frag} : ∀ {ds : List D} {us : List Value}, repBs K ds us = true → ∃ vs, Vals vs us ∧ ∀ F, Reps K F ds vs
  | [], [], _ => ⟨[], .nil, fun _ => .nil⟩
  | [], _ :: _, h => by cases h
  | _ :: _, [], h => by cases h
  | d :: ds, u :: us, h => by
    unfold repBs at h
    obtain ⟨h1, h2⟩ := He.ba h
    obtain ⟨v, r, q⟩ := repB_ok h1
    obtain ⟨vs, rs, qs⟩ := repBs_ok h2
    exact ⟨v :: vs, .cons r rs, fun F => .cons (q F) (qs F)⟩
end
/-! ### facts -/
inductive Fz where
  | fa (f : He.Fa)
  | con (x : Str) (d : D)
  | prop (c f : Str)
  | cmet (c f : Str)
  | cread (c : Str)
  | dun (c f : Str)
  | clsf (c : Str)
  | nec (c : Str)
  | notf (c : Str) (t : Ty)
  | tab (t u : Ty) (b : Bool)
  | first (c : Str)
  | chk (f : Frag → Bool)
/-- a name that is bound, to a value that passes -/
def bound (p : Value → Bool) : Option (Option Value) → Bool
  | some (some u) => p u
  | _ => false
theorem bound_ok {p : Value → Bool} : ∀ {o : Option (Option Value)}, bound p o = true → ∃ u, o = some (some u) ∧ p u = true
  | some (some u), h => ⟨u, rfl, h⟩
  | some none, h => by cases h
  | none, h => by cases h
def Fz.ok (K : Frag) : Fz → Bool
  | .fa f => f.ok K
  | .con x d => bound (repB K d) (PySem.W.nsIn K mainGlobals x)
  | .prop c f => He.eqO (PySem.W.findIn K (.ref (He.ga K c)) f) (some (some (.ref (He.ma K (He.ga K c) f)))) && (He.eqO (PySem.W.specialIn K (.ref (He.ma K (He.ga K c) f)) "__get__") (some (some (.builtin "property.__get__"))) &&
    (decide (PySem.W.takesIn K (.ref (He.ma K (He.ga K c) f)) = some true) && (match PySem.W.recIn K (He.ma K (He.ga K c) f) "property" with
      | some (.ref g :: _) => true
      | _ => false)))
  | .cmet c f => (match PySem.W.findCls K (.ref (He.ga K c)) (.type "type") f with
    | some (.get a b d e) => decide (a = .builtin "classmethod.__get__") && (decide (b = .ref (He.ma K (He.ga K c) f)) && (decide (d = .none) && decide (e = .ref (He.ga K c))))
    | _ => false) && ((match PySem.W.recIn K (He.ma K (He.ga K c) f) "classmethod" with
      | some (.ref g :: _) => PySem.W.fnIn K g
      | _ => false))
  | .cread c => PySem.W.readsIn K (He.ga K c) (.type "type") && He.eqO (PySem.W.specialIn K (.ref (He.ga K c)) "__getattribute__") (some (some (.builtin "type.__getattribute__")))
  | .dun c f => He.eqO (PySem.W.findIn K (.ref (He.ga K c)) f) (some (some (.ref (He.ma K (He.ga K c) f)))) && PySem.W.isFn K (.ref (He.ma K (He.ga K c) f))
  | .clsf c => He.eqO (PySem.W.findIn K (.ref (He.ga K c)) "__class__") (some (some (.builtin "object.__class__"))) && (He.eqO (PySem.W.specialIn K (.builtin "object.__class__") "__get__") (some (some (.builtin "getset_descriptor.__get__"))) &&
    (decide (PySem.W.takesIn K (.builtin "object.__class__") = some true) && decide (PySem.W.mroIn K (He.ga K c) (.type "object") = some true)))
  | .nec c => He.eqO (PySem.W.findIn K (.ref (He.ga K c)) "__ne__") (some (some (.builtin "object.__ne__"))) && decide (PySem.W.subIn K (.ref (He.ga K c)) (.type "object") = some true)
  | .notf c t => PySem.W.notFirst K (He.ga K c) (t.val K)
  | .tab t u b => decide (PySem.W.kitOne K (t.val K) (u.val K) = some b)
  | .first c => PySem.W.selfFirst K (He.ga K c)
  | .chk f => f K
section
variable {K : Frag} {h : Heap} {mg : Str → Option Value}
theorem con_ok (X : K.In h) (G : h.Ns mainGlobals mg) {x : Str} {d : D} (c : (Fz.con x d).ok K = true) : ∃ u v, mg x = some u ∧ RelV v u ∧ ∀ F, Rep K F d v := by
  obtain ⟨u, e, p⟩ := bound_ok c
  obtain ⟨v, r, q⟩ := repB_ok p
  exact ⟨u, v, PySem.W.mg_of X G e, r, q⟩
theorem prop_ok {c f : Str} (z : (Fz.prop c f).ok K = true) : PropOf K (He.ga K c) f (He.ma K (He.ga K c) f) ((Ad.p c f).at K) := by
  obtain ⟨h1, z⟩ := He.ba z
  obtain ⟨h2, z⟩ := He.ba z
  obtain ⟨h3, z⟩ := He.ba z
  refine ⟨He.eqO_ok h1, He.eqO_ok h2, of_decide_eq_true h3, ?_⟩
  show ∃ rest, _ = some (Value.ref (recF K (He.ma K (He.ga K c) f) "property") :: rest)
  unfold recF
  revert z
  split
  · rename_i g r q
    intro _
    exact ⟨r, q⟩
  · intro z; cases z
theorem cmet_ok {c f : Str} (z : (Fz.cmet c f).ok K = true) : ClX.CMet K (He.ga K c) (.type "type") f (He.ma K (He.ga K c) f) ((Ad.k c f).at K) := by
  obtain ⟨h1, z⟩ := He.ba z
  have key : ∃ rest, PySem.W.recIn K (He.ma K (He.ga K c) f) "classmethod" = some (.ref (recF K (He.ma K (He.ga K c) f) "classmethod") :: rest) ∧ PySem.W.fnIn K (recF K (He.ma K (He.ga K c) f) "classmethod") = true := by
    unfold recF
    revert z
    split
    · rename_i g r q
      intro z
      exact ⟨r, q, z⟩
    · intro z; cases z
  obtain ⟨rest, e1, e2⟩ := key
  refine ⟨?_, ⟨rest, e1⟩, e2⟩
  revert h1
  split
  · rename_i a b d e q
    intro h1
    obtain ⟨a1, h1⟩ := He.ba h1
    obtain ⟨a2, h1⟩ := He.ba h1
    obtain ⟨a3, a4⟩ := He.ba h1
    rw [q, of_decide_eq_true a1, of_decide_eq_true a2, of_decide_eq_true a3, of_decide_eq_true a4]
  · intro h1; cases h1
theorem cread_ok {c : Str} (z : (Fz.cread c).ok K = true) : ClX.CRead K (He.ga K c) (.type "type") := ⟨(He.ba z).1, He.eqO_ok (He.ba z).2⟩
theorem dun_ok {c f : Str} (z : (Fz.dun c f).ok K = true) : DunC K c f ((Ad.m c f).at K) := ⟨He.eqO_ok (He.ba z).1, (He.ba z).2⟩
theorem nec_ok {c : Str} (z : (Fz.nec c).ok K = true) : NeC K c := ⟨He.eqO_ok (He.ba z).1, of_decide_eq_true (He.ba z).2⟩
theorem cls_ok {c : Str} (z : (Fz.fa (.cls c)).ok K = true) : Cls K (He.ga K c) := by
  obtain ⟨h1, z⟩ := He.ba z
  obtain ⟨h2, z⟩ := He.ba z
  obtain ⟨h3, z⟩ := He.ba z
  exact ⟨h1, h2, h3, He.eqO_ok z⟩
theorem noat_ok {c f : Str} (z : (Fz.fa (.noat c f)).ok K = true) : NoAttr K (He.ga K c) f := He.eqO_ok z
theorem mkr_ok {c : Str} (z : (Fz.fa (.mkr c)).ok K = true) : Mk K (He.ga K c) ((Ad.m c "__init__").at K) := by
  obtain ⟨h1, z⟩ := He.ba z
  obtain ⟨h2, z⟩ := He.ba z
  obtain ⟨h3, h4⟩ := He.ba z
  exact ⟨h1, He.eqO_ok h2, h3, h4⟩
theorem meth_ok {c f : Str} (z : (Fz.fa (.meth c f)).ok K = true) : Meth K (He.ga K c) f ((Ad.m c f).at K) := by
  obtain ⟨h1, z⟩ := He.ba z
  obtain ⟨h2, h3⟩ := He.ba z
  exact ⟨He.eqO_ok h1, h2, h3⟩
theorem clsf_ok {c : Str} (k : Cls K (He.ga K c)) (z : (Fz.clsf c).ok K = true) : ClsF K c := by
  obtain ⟨h1, z⟩ := He.ba z
  obtain ⟨h2, z⟩ := He.ba z
  obtain ⟨h3, h4⟩ := He.ba z
  exact ⟨k, He.eqO_ok h1, He.eqO_ok h2, of_decide_eq_true h3, of_decide_eq_true h4⟩
theorem notf_ok {c : Str} {t : Ty} (z : (Fz.notf c t).ok K = true) : PySem.W.notFirst K (He.ga K c) (t.val K) = true := z
theorem tab_ok {t u : Ty} {b : Bool} (z : (Fz.tab t u b).ok K = true) : PySem.W.kitOne K (t.val K) (u.val K) = some b := of_decide_eq_true z
theorem chk_ok {f : Frag → Bool} (z : (Fz.chk f).ok K = true) : f K = true := z
theorem first_ok {c : Str} (z : (Fz.first c).ok K = true) : PySem.W.selfFirst K (He.ga K c) = true := z
end
/-! ### the hook -/
abbrev AlZ : Type := Bool × List He.FnW
def obsZ (fz : List Fz) (fn : List DefZ) (K : Frag) : AlZ := ((fz.all fun f => f.ok K) && fn.all fun d => d.ok K, fn.map fun d => fnZ K (d.ad.at K))
def valZ (fn : List DefZ) : AlZ := (true, fn.map DefZ.val)
def SaysZ (fz : List Fz) (fn : List DefZ) (K : Frag) : Prop := obsZ fz fn K = valZ fn
/-- what the hook reads in a heap: the written objects it can reach in n steps -/
def obsZG (n : Nat) (fz : List Fz) (fn : List DefZ) (g : Addr → Option Obj) : AlZ := obsZ fz fn (He.frG g (He.asD g n ++ [cStatics]))
/-- the heap's written objects hold what was asked -/
def HoldsZ (fz : List Fz) (fn : List DefZ) (h : Heap) : Prop := ∃ K : Frag, K.In h ∧ SaysZ fz fn K
theorem HoldsZ.stay {fz : List Fz} {fn : List DefZ} {h h' : Heap} (p : HoldsZ fz fn h) (k : ∀ a o, h.get? a = some o → h'.get? a = some o) : HoldsZ fz fn h' := by
  obtain ⟨K, i, c⟩ := p
  exact ⟨K, i.keeps k, c⟩
def hookZ (n : Nat) (fz : List Fz) (fn : List DefZ) : PySem.W.Hook where
  α := AlZ
  obs := fun s => obsZG n fz fn s.heap.get?
  val := fun _ => valZ fn
  says := fun _ => HoldsZ fz fn
  of := fun _ _ e => ⟨_, He.frG_in, e⟩
  keeps := fun _ _ _ p => p.stay
theorem obsZG_eq {n : Nat} {fz : List Fz} {fn : List DefZ} {g : Addr → Option Obj} {s : Shared} (h : ∀ a, g a = s.heap.get? a) : obsZG n fz fn g = (hookZ n fz fn).obs s :=
  congrArg (obsZG n fz fn) (funext h)
section
variable {fz : List Fz} {fn : List DefZ} {K : Frag}
theorem SaysZ.both (c : SaysZ fz fn K) : (∀ f ∈ fz, f.ok K = true) ∧ ∀ d ∈ fn, d.ok K = true := by
  obtain ⟨p, q⟩ := He.ba (congrArg Prod.fst c : ((fz.all fun f => f.ok K) && fn.all fun d => d.ok K) = true)
  exact ⟨List.all_eq_true.mp p, List.all_eq_true.mp q⟩
theorem SaysZ.fact (c : SaysZ fz fn K) (i : Nat) {f : Fz} (h : fz[i]? = some f := by rfl) : f.ok K = true :=
  c.both.1 f (List.mem_of_getElem? h)
theorem SaysZ.def_ (c : SaysZ fz fn K) (i : Nat) {d : DefZ} (h : fn[i]? = some d := by rfl) : ∃ fd, FunD K d.name d.qual d.params d.body d.scope [] [] (d.ad.at K) fd := by
  have e : (fn.map fun d => fnZ K (d.ad.at K))[i]? = (fn.map DefZ.val)[i]? := congrArg (fun z : AlZ => z.2[i]?) c
  simp only [List.getElem?_map, h, Option.map_some, Option.some.injEq] at e
  exact DefZ.funD e (c.both.2 d (List.mem_of_getElem? h))
end
end Dz

/-! Dz15: walks over any data; step lemmas of the newer combinators. -/
namespace Dz
open PySem PySem.Spec PyProof.Rows L2
section
variable {X : Cx} {tg e : Expr} {f : Env → M Vl}
theorem PI.or {t t' : TI} (h : PI X tg e t) (h' : PI X tg e t') : PI X tg e (fun σ H R => t σ H R ∨ t' σ H R) := ⟨fun pins s σ H R I q => q.elim (h.run pins s σ H R I) (h'.run pins s σ H R I)⟩
def itA (x : Vl) : M (List D) := match x with
  | .d (.lst ds) => pur ds
  | .d (.scr ns) => pur (ns.map D.int)
  | .d (.tup ds) => pur ds
  | .d (.str z) => pur (signs z)
  | _ => stuck
theorem mi_any (h : ME X Er e f) : MI X Er tg e (iOf itA f) := PI.imp (PI.or (mi_list h) (PI.or (mi_tup h) (mi_str h))) fun σ H Rr ⟨F, m, G, S, ρ, w, r, z⟩ => by
  have mk : ∀ g : Vl → M (List D), (∀ x S1, f ρ S = .ok x S1 → itA x S1 = g x S1) → tI X.K Er (iOf g f) σ H Rr := fun g hg => ⟨F, m, G, S, ρ, w, r, by
    unfold iOf bnd at z ⊢
    cases q : f ρ S with
    | err => rw [q] at z; exact z
    | no => rw [q] at z; exact z
    | ok x S1 => rw [q] at z; simp only [] at z ⊢; rw [← hg x S1 q]; exact z⟩
  cases q : f ρ S with
  | err => exact .inl (mk itL fun x S1 h => by rw [q] at h; cases h)
  | no => exact .inl (mk itL fun x S1 h => by rw [q] at h; cases h)
  | ok x S1 =>
    have one : ∀ g : Vl → M (List D), itA x S1 = g x S1 → tI X.K Er (iOf g f) σ H Rr := fun g e => mk g fun x' S' h => by rw [q] at h; cases h; exact e
    cases x with
    | c n => exact .inl (one itL rfl)
    | d x =>
      cases x with
      | tup ds => exact .inr (.inl (one itT rfl))
      | str z => exact .inr (.inr (one itS rfl))
      | _ => exact .inl (one itL rfl)
end
/-! ### steps -/
section
variable {f g h : Env → M Vl} {fs : Env → M (List Vl)} {ρ : Env} {S : Sto} {p : Env → M Bool}
theorem w_sl {l u : Env → M (Option Int)} {Q : Vl → Sto → Prop} : wp (eSl f l u ρ) S Q ↔ wp (f ρ) S fun x S => wp (l ρ) S fun lo S => wp (u ρ) S fun hi S => wp (sl x lo hi) S Q := by
  unfold eSl
  simp only [wp_bnd]
theorem w_oNone {Q : Option Int → Sto → Prop} : wp (oNone ρ) S Q ↔ Q none S := wp_pur
theorem w_oSome {Q : Option Int → Sto → Prop} : wp (oSome f ρ) S Q ↔ wp (f ρ) S fun x S => wp (asI x) S Q := wp_bnd
theorem w_asI {i : Int} {Q : Option Int → Sto → Prop} : wp (asI (.d (.int i))) S Q ↔ Q (some i) S := wp_pur
theorem w_slL {ds : List D} {lo hi : Option Int} {Q : Vl → Sto → Prop} : wp (sl (.d (.lst ds)) lo hi) S Q ↔ Q (.d (.lst (cut ds lo hi))) S := wp_pur
theorem w_slT {ds : List D} {lo hi : Option Int} {Q : Vl → Sto → Prop} : wp (sl (.d (.tup ds)) lo hi) S Q ↔ Q (.d (.tup (cut ds lo hi))) S := wp_pur
theorem w_zp {Q : List D → Sto → Prop} : wp (iZp fs ρ) S Q ↔ wp (fs ρ) S fun xs S => wp (itZ xs) S Q := wp_bnd
theorem w_itZL {a b : List D} {Q : List D → Sto → Prop} : wp (itZ [.d (.lst a), .d (.lst b)]) S Q ↔ Q (zipD a b) S := wp_pur
theorem w_itZT {a b : List D} {Q : List D → Sto → Prop} : wp (itZ [.d (.tup a), .d (.tup b)]) S Q ↔ Q (zipD a b) S := wp_pur
theorem w_rg3 {Q : List D → Sto → Prop} : wp (iRg3 fs ρ) S Q ↔ wp (fs ρ) S fun xs S => wp (itR3 xs) S Q := wp_bnd
theorem w_itR3 {i j : Int} {Q : List D → Sto → Prop} (h : (-(2 ^ 62) ≤ i ∧ i < 2 ^ 62) ∧ -(2 ^ 62) ≤ j ∧ j < 2 ^ 62) : wp (itR3 [.d (.int i), .d (.int j), .d (.int (-1))]) S Q ↔ Q (dDown i (i - j).toNat) S := by
  show wp (if _ then _ else _) S Q ↔ _
  rw [if_pos ⟨h, rfl⟩, wp_pur]
theorem w_itR2 {i j : Int} {Q : List D → Sto → Prop} (h : (-(2 ^ 62) ≤ i ∧ i < 2 ^ 62) ∧ -(2 ^ 62) ≤ j ∧ j < 2 ^ 62) : wp (itR [.d (.int i), .d (.int j)]) S Q ↔ Q (dInts i (j - i).toNat) S := by
  show wp (if _ then _ else _) S Q ↔ _
  rw [if_pos h, wp_pur]
theorem w_dc {it : Env → M (List D)} {tg : Tgt} {own : List Nat} {Q : Vl → Sto → Prop} : wp (eDc it tg p f g own ρ) S Q ↔ wp (it ρ) S fun ds S => wp (if ds.length ≤ 100000 then bnd (dcL tg p f g (wipeE ρ own) [] ds) dctV else stuck) S Q := by
  unfold eDc
  rw [wp_bnd]
  constructor <;> intro h <;> refine wp_mono h fun ds S q => ?_ <;> split at q <;> rename_i hq
  · rw [if_pos hq]
    simpa only [wp_bnd, wp_noE] using q
  · obtain ⟨_, _, e, _⟩ := q; cases e
  · rw [if_pos hq]
    simpa only [wp_bnd, wp_noE] using q
  · obtain ⟨_, _, e, _⟩ := q; cases e
theorem w_par {i j : Nat} {Q : Out → Sto → Prop} : wp (sPar i j fs ρ) S Q ↔ wp (fs ρ) S fun xs S => wp (match xs with | [x, y] => pur (.nx ((ρ.set i (some x)).set j (some y))) | _ => stuck) S Q := wp_bnd
theorem w_asg {t : Tgt} {Q : Out → Sto → Prop} : wp (sAsg f t ρ) S Q ↔ wp (f ρ) S fun x S => wp (asD x) S fun d S => wp (gSet t d ρ) S fun ρ1 S => Q (.nx ρ1) S := by
  unfold sAsg
  simp only [wp_bnd, wp_pur]
theorem w_asD {d : D} {Q : D → Sto → Prop} : wp (asD (.d d)) S Q ↔ Q d S := wp_pur
theorem w_fld {cs : List Str} {x : Str} {Q : Vl → Sto → Prop} : wp (eFld cs x f ρ) S Q ↔ wp (f ρ) S fun o S => wp (fld cs x o) S Q := wp_bnd
theorem w_fldD {cs : List Str} {x c : Str} {fl : List (Str × D)} {d : D} {Q : Vl → Sto → Prop} (h1 : c ∈ cs) (h2 : fl.lookup x = some d) : wp (fld cs x (.d (.ins c fl))) S Q ↔ Q (.d d) S := by
  have e : fld cs x (.d (.ins c fl)) S = .ok (.d d) S := by
    show (if c ∈ cs then opt (fl.lookup x) (fun d => pur (Vl.d d)) else stuck) S = _
    rw [if_pos h1, h2]
    rfl
  exact ⟨fun ⟨a, S', h, q⟩ => by rw [e] at h; cases h; exact q, fun q => ⟨_, _, e, q⟩⟩
theorem w_fldC {cs : List Str} {x c : Str} {n : Nat} {fl : List (Str × D)} {d : D} {Q : Vl → Sto → Prop} (h0 : S[n]? = some (.ins c fl)) (h1 : c ∈ cs) (h2 : fl.lookup x = some d) : wp (fld cs x (.c n)) S Q ↔ Q (.d d) S := by
  have e : fld cs x (.c n) S = .ok (.d d) S := by
    unfold fld bnd insOf
    simp only []
    rw [h0]
    simp only []
    rw [if_pos h1, h2]
    rfl
  exact ⟨fun ⟨a, S', h, q⟩ => by rw [e] at h; cases h; exact q, fun q => ⟨_, _, e, q⟩⟩
theorem w_sfd {cs : List Str} {x : Str} {Q : Out → Sto → Prop} : wp (sFd cs x f g ρ) S Q ↔ wp (g ρ) S fun y S => wp (f ρ) S fun o S => wp (stF cs x o y) S fun _ S => Q (.nx ρ) S := by
  unfold sFd
  simp only [wp_bnd, wp_pur]
theorem w_stF {cs : List Str} {x c : Str} {n : Nat} {fl : List (Str × D)} {d : D} {Q : Unit → Sto → Prop} (h0 : S[n]? = some (.ins c fl)) (h1 : c ∈ cs) (h2 : fl.length < 1000) : wp (stF cs x (.c n) (.d d)) S Q ↔ Q () (S.set n (.ins c (putFD x d fl))) := by
  have e : stF cs x (.c n) (.d d) S = .ok () (S.set n (.ins c (putFD x d fl))) := by
    unfold stF
    simp only []
    rw [h0]
    simp only []
    rw [if_pos ⟨h1, h2⟩]
  exact ⟨fun ⟨a, S', h, q⟩ => by rw [e] at h; cases h; exact q, fun q => ⟨_, _, e, q⟩⟩
theorem w_mk {c : Str} {φ : List Vl → M Vl} {Q : Vl → Sto → Prop} : wp (eMk c φ fs ρ) S Q ↔ wp (fs ρ) S fun xs S => wp (mkI c φ xs) S Q := wp_bnd
/-- an instance is made -/
theorem wp_mkI {c : Str} {φ : List Vl → M Vl} {xs : List Vl} {Q : Vl → Sto → Prop} (h : wp (φ (.c S.length :: xs)) (S ++ [.ins c []]) fun r S' => r = .d .non ∧ ∃ c' fl, S'[S.length]? = some (.ins c' fl) ∧ Q (.d (.ins c' fl)) (S'.take S.length)) : wp (mkI c φ xs) S Q := by
  obtain ⟨r, S', e, rfl, c', fl, h1, q⟩ := h
  refine ⟨.d (.ins c' fl), S'.take S.length, ?_, q⟩
  unfold mkI
  rw [e]
  simp only []
  unfold frzI
  rw [h1]
theorem w_pro {c : Str} {φ : List Vl → M Vl} {Q : Vl → Sto → Prop} : wp (ePro c φ f ρ) S Q ↔ wp (f ρ) S fun x S => wp (isI c x) S fun _ S => wp (φ [x]) S Q := by
  unfold ePro
  simp only [wp_bnd, wp_noE]
theorem w_isI {c : Str} {fl : List (Str × D)} {Q : Unit → Sto → Prop} : wp (isI c (.d (.ins c fl))) S Q ↔ Q () S := by
  have e : isI c (.d (.ins c fl)) S = .ok () S := by
    show (if c = c then pur () else stuck) S = _
    rw [if_pos rfl]
    rfl
  exact ⟨fun ⟨a, S', h, q⟩ => by rw [e] at h; cases h; exact q, fun q => ⟨_, _, e, q⟩⟩
theorem w_met {c m : Str} {φ : List Vl → M Vl} {Q : Vl → Sto → Prop} : wp (eMet c m φ f fs ρ) S Q ↔ wp (f ρ) S fun x S => wp (isM c m x) S fun _ S => wp (fs ρ) S fun xs S => wp (φ (x :: xs)) S Q := by
  unfold eMet
  simp only [wp_bnd]
theorem w_isM {c m : Str} {fl : List (Str × D)} {Q : Unit → Sto → Prop} (h : fl.lookup m = none) : wp (isM c m (.d (.ins c fl))) S Q ↔ Q () S := by
  have e : isM c m (.d (.ins c fl)) S = .ok () S := by
    show (if c = c ∧ fl.lookup m = none then pur () else stuck) S = _
    rw [if_pos ⟨rfl, h⟩]
    rfl
  exact ⟨fun ⟨a, S', h, q⟩ => by rw [e] at h; cases h; exact q, fun q => ⟨_, _, e, q⟩⟩
theorem w_ncb {o : List Vl → M (List D)} {Q : List D → Sto → Prop} : wp (nCB o fs ρ) S Q ↔ wp (fs ρ) S fun xs S => wp (o xs) S Q := wp_bnd
theorem w_tupL {ds : List D} {Q : Vl → Sto → Prop} : wp (tTuple [.d (.lst ds)]) S Q ↔ Q (.d (.tup ds)) S := wp_pur
theorem w_tupT {ds : List D} {Q : Vl → Sto → Prop} : wp (tTuple [.d (.tup ds)]) S Q ↔ Q (.d (.tup ds)) S := wp_pur
theorem w_listL {ds : List D} {Q : List D → Sto → Prop} : wp (tList [.d (.lst ds)]) S Q ↔ Q ds S := wp_pur
theorem w_listT {ds : List D} {Q : List D → Sto → Prop} : wp (tList [.d (.tup ds)]) S Q ↔ Q ds S := wp_pur
theorem w_sorted {ns : List Int} {Q : List D → Sto → Prop} : wp (bSorted [.d (.lst (ns.map D.int))]) S Q ↔ Q ((srt ns).map D.int) S := by
  have e : bSorted [.d (.lst (ns.map D.int))] S = .ok ((srt ns).map D.int) S := by
    show (match (Vl.d (.lst (ns.map D.int))), intsOf (ns.map D.int) with
      | .d (.lst _), some ns => pur ((srt ns).map D.int)
      | .c _, some ns => pur ((srt ns).map D.int)
      | _, _ => stuck) S = _
    rw [intsOf_map]
    rfl
  exact ⟨fun ⟨a, S', h, q⟩ => by rw [e] at h; cases h; exact q, fun q => ⟨_, _, e, q⟩⟩
theorem w_minI {a b : Int} {Q : Vl → Sto → Prop} : wp (bMinL [.d (.int a), .d (.int b)]) S Q ↔ Q (.d (.int (if b < a then b else a))) S := wp_pur
theorem w_minL {ns : List Int} {k : Int} {Q : Vl → Sto → Prop} (h : ns.min? = some k) : wp (bMinL [.d (.lst (ns.map D.int))]) S Q ↔ Q (.d (.int k)) S := by
  show wp (opt (intsOf (ns.map D.int)) fun ns => opt ns.min? fun k => pur (.d (.int k))) S Q ↔ _
  rw [intsOf_map]
  show wp (opt ns.min? fun k => pur (.d (.int k))) S Q ↔ _
  rw [h]
  exact wp_pur
theorem w_itA {ds : List D} {Q : List D → Sto → Prop} : wp (itA (.d (.lst ds))) S Q ↔ Q ds S := wp_pur
theorem w_itAt {ds : List D} {Q : List D → Sto → Prop} : wp (itA (.d (.tup ds))) S Q ↔ Q ds S := wp_pur
theorem w_itAs {ns : List Int} {Q : List D → Sto → Prop} : wp (itA (.d (.scr ns))) S Q ↔ Q (ns.map D.int) S := wp_pur
theorem w_itAz {z : Str} {Q : List D → Sto → Prop} : wp (itA (.d (.str z))) S Q ↔ Q (signs z) S := wp_pur
theorem any_ints (ns : List Int) (i : Int) : (ns.map D.int).any (eqF · (.int i)) = decide (i ∈ ns) := by
  induction ns with
  | nil => rfl
  | cons n ns ih =>
    rw [List.map_cons, List.any_cons, ih]
    show ((n == i) || _) = _
    by_cases h : n = i
    · subst h; simp
    · have h' : ¬ i = n := fun z => h z.symm
      simp [h, h', beq_iff_eq]
theorem all_ints (ns : List Int) : (ns.map D.int).all flatD = true := by
  rw [List.all_eq_true]
  intro d hd
  obtain ⟨i, _, rfl⟩ := List.mem_map.mp hd
  rfl
theorem w_inT {ns : List Int} {i : Int} {Q : Vl → Sto → Prop} : wp (cIn2 (.d (.int i)) (.d (.tup (ns.map D.int)))) S Q ↔ Q (.d (.bl (decide (i ∈ ns)))) S := by
  unfold cIn2 inG
  simp only [wp_bnd, wp_pur]
  rw [if_pos (by rw [all_ints]; rfl), wp_pur, any_ints]
theorem w_inL {ns : List Int} {i : Int} {Q : Vl → Sto → Prop} : wp (cIn2 (.d (.int i)) (.d (.lst (ns.map D.int)))) S Q ↔ Q (.d (.bl (decide (i ∈ ns)))) S := by
  unfold cIn2 inG
  simp only [wp_bnd, wp_pur]
  rw [if_pos (by rw [all_ints]; rfl), wp_pur, any_ints]
theorem w_niT {ns : List Int} {i : Int} {Q : Vl → Sto → Prop} : wp (cNotIn2 (.d (.int i)) (.d (.tup (ns.map D.int)))) S Q ↔ Q (.d (.bl (!decide (i ∈ ns)))) S := by
  unfold cNotIn2 inG
  simp only [wp_bnd, wp_pur]
  rw [if_pos (by rw [all_ints]; rfl), wp_pur, any_ints]
theorem w_inD {kvs : List (Key × D)} {i : Int} {Q : Vl → Sto → Prop} : wp (cIn2 (.d (.int i)) (.d (.dct kvs))) S Q ↔ Q (.d (.bl (hasK kvs (.inl i)))) S := by
  unfold cIn2 inG
  simp only [wp_bnd, wp_pur, keyD, w_some]
end
end Dz

/-! Dz16: small words of the generator. -/
namespace Dz
open PySem PySem.Spec PyProof.Rows L2
theorem all_nil {α : Type} {p : α → Prop} : ∀ x ∈ ([] : List α), p x := fun _ h => nomatch h
theorem all_cons {α : Type} {p : α → Prop} {a : α} {l : List α} (h : p a) (t : ∀ x ∈ l, p x) : ∀ x ∈ a :: l, p x := fun x hx => by
  rcases List.mem_cons.mp hx with rfl | hx
  · exact h
  · exact t x hx
theorem fld_nil {K : Frag} {f : Str} : ∀ c ∈ ([] : List Str), FldC K c f := all_nil
theorem fld_cons {K : Frag} {c f : Str} {l : List Str} (h : FldC K c f) (t : ∀ x ∈ l, FldC K x f) : ∀ x ∈ c :: l, FldC K x f := all_cons h t
end Dz

/-! Dz17: == of texts, items, isinstance and repr by steps, == of lists and tuples of ints. -/
namespace Dz
open PySem PySem.Spec PyProof.Rows L2
section
variable {X : Cx}
def cEqX (a b : Vl) : M Vl := match a, b with
  | .d (.str x), .d (.str y) => pur (.d (.bl (x == y)))
  | a, b => cEq a b
def cNeX (a b : Vl) : M Vl := match a, b with
  | .d (.str x), .d (.str y) => pur (.d (.bl (!(x == y))))
  | a, b => cNe a b
theorem om_eqX (hu : X.A.units + 64 < cLine) : OpM X Er (compareOp .Eq) cEqX := fun pins s σ H x y v u Q I rx ry ⟨F, m, G, S, a, b, w, ra, rb, z⟩ => by
  have other : cEq a b S = cEqX a b S → wpAny (model X.prog X.w) X.A (compareOp .Eq v u) (EP X pins σ Q) X.xe s := fun e => om_eq hu pins s σ H x y v u Q I rx ry ⟨F, m, G, S, a, b, w, ra, rb, by rw [e]; exact z⟩
  cases a with
  | c n => exact other rfl
  | d a =>
    cases a with
    | str i =>
      cases b with
      | c n => exact other rfl
      | d b =>
        cases b with
        | str j =>
          cases ra
          cases rb
          refine op_eq pins s σ H _ _ v u Q I rx ry ⟨rfl, ?_⟩
          rw [dec_str]
          exact res_ok w (.bl _) z
        | _ => exact other rfl
    | _ => exact other rfl
theorem om_neX (hu : X.A.units + 64 < cLine) : OpM X Er (compareOp .NotEq) cNeX := fun pins s σ H x y v u Q I rx ry ⟨F, m, G, S, a, b, w, ra, rb, z⟩ => by
  have other : cNe a b S = cNeX a b S → wpAny (model X.prog X.w) X.A (compareOp .NotEq v u) (EP X pins σ Q) X.xe s := fun e => om_ne hu pins s σ H x y v u Q I rx ry ⟨F, m, G, S, a, b, w, ra, rb, by rw [e]; exact z⟩
  cases a with
  | c n => exact other rfl
  | d a =>
    cases a with
    | str i =>
      cases b with
      | c n => exact other rfl
      | d b =>
        cases b with
        | str j =>
          cases ra
          cases rb
          refine op_ne pins s σ H _ _ v u Q I rx ry ⟨rfl, ?_⟩
          rw [dec_str]
          exact res_ok w (.bl _) z
        | _ => exact other rfl
    | _ => exact other rfl
end
section
variable {S : Sto} {Q : Vl → Sto → Prop}
theorem w_eqS {x y : Str} : wp (cEqX (.d (.str x)) (.d (.str y))) S Q ↔ Q (.d (.bl (x == y))) S := wp_pur
theorem w_neS {x y : Str} : wp (cNeX (.d (.str x)) (.d (.str y))) S Q ↔ Q (.d (.bl (!(x == y)))) S := wp_pur
theorem w_eqI {a b : Int} : wp (cEqX (.d (.int a)) (.d (.int b))) S Q ↔ Q (.d (.bl (a == b))) S := w_eq (eqD_int a b)
theorem w_neI {a b : Int} : wp (cNeX (.d (.int a)) (.d (.int b))) S Q ↔ Q (.d (.bl (!(a == b)))) S := w_ne (eqD_int a b)
theorem w_eqB {a b : Bool} : wp (cEqX (.d (.bl a)) (.d (.bl b))) S Q ↔ Q (.d (.bl (a == b))) S := w_eq (eqD_bl a b)
theorem w_neB {a b : Bool} : wp (cNeX (.d (.bl a)) (.d (.bl b))) S Q ↔ Q (.d (.bl (!(a == b)))) S := w_ne (eqD_bl a b)
theorem pyOfs_ints : ∀ ns : List Int, pyOfs (ns.map D.int) = some (ns.map PyData.int)
  | [] => rfl
  | n :: ns => by
    show (match pyOf (.int n), pyOfs (ns.map D.int) with
      | some p, some ps => some (p :: ps)
      | _, _ => none) = _
    rw [pyOfs_ints ns]
    rfl
theorem canLay_ints : ∀ ns : List Int, PyData.canLayAll0 (ns.map PyData.int) = true
  | [] => by first | rfl | simp [PyData.canLayAll0]
  | n :: ns => by
    rw [List.map_cons]
    first
    | (show (PyData.canLay0 (.int n) && PyData.canLayAll0 (ns.map PyData.int)) = true; rw [canLay_ints ns]; rfl)
    | (simp only [PyData.canLayAll0, PyData.canLay0, canLay_ints ns]; rfl)
    | simp [PyData.canLayAll0, PyData.canLay0, canLay_ints ns]
theorem depth_ints : ∀ ns : List Int, PyData.depthAll (ns.map PyData.int) ≤ 1
  | [] => by first | exact Nat.zero_le _ | simp [PyData.depthAll]
  | n :: ns => by
    have := depth_ints ns
    rw [List.map_cons]
    simp only [PyData.depthAll, PyData.depth]
    omega
end
end Dz

/-! Dz18: == of lists and tuples of ints; the length of what repr shows. -/
namespace Dz
open PySem PySem.Spec PyProof.Rows L2
theorem eqvAll_ints : ∀ ns ms : List Int, PyData.eqvAll (ns.map PyData.int) (ms.map PyData.int) = decide (ns = ms)
  | [], [] => by rfl
  | [], _ :: _ => by rfl
  | _ :: _, [] => by rfl
  | n :: ns, m :: ms => by
    rw [List.map_cons, List.map_cons, PyData.eqvAll, eqvAll_ints ns ms]
    show ((n == m) && decide (ns = ms)) = _
    by_cases h : n = m
    · subst h; simp
    · simp [h]
theorem shaped_lst (ns : List Int) : SeqAt.shaped (.list (ns.map PyData.int)) = true := by
  have h1 := canLay_ints ns
  have h2 := depth_ints ns
  unfold SeqAt.shaped
  rw [Bool.and_eq_true]
  exact ⟨by simpa [PyData.canLay0] using h1, decide_eq_true (by simp only [PyData.depth]; omega)⟩
theorem shaped_tup (ns : List Int) : SeqAt.shaped (.tuple (ns.map PyData.int)) = true := by
  have h1 := canLay_ints ns
  have h2 := depth_ints ns
  unfold SeqAt.shaped
  rw [Bool.and_eq_true]
  exact ⟨by simpa [PyData.canLay0] using h1, decide_eq_true (by simp only [PyData.depth]; omega)⟩
theorem pyOf_lst (ns : List Int) : pyOf (.lst (ns.map D.int)) = some (.list (ns.map PyData.int)) := by
  unfold pyOf
  rw [pyOfs_ints]
theorem pyOf_tup (ns : List Int) : pyOf (.tup (ns.map D.int)) = some (.tuple (ns.map PyData.int)) := by
  unfold pyOf
  rw [pyOfs_ints]
theorem eqD_lst (ns ms : List Int) : eqD (.lst (ns.map D.int)) (.lst (ms.map D.int)) = some (decide (ns = ms)) := by
  unfold eqD
  rw [pyOf_lst, pyOf_lst]
  simp only []
  rw [shaped_lst, shaped_lst, Bool.and_self, if_pos rfl, PyData.eqv, eqvAll_ints]
theorem eqD_tup (ns ms : List Int) : eqD (.tup (ns.map D.int)) (.tup (ms.map D.int)) = some (decide (ns = ms)) := by
  unfold eqD
  rw [pyOf_tup, pyOf_tup]
  simp only []
  rw [shaped_tup, shaped_tup, Bool.and_self, if_pos rfl, PyData.eqv, eqvAll_ints]
theorem eqD_refl {d : D} {p : PyData} (h : pyOf d = some p) (hs : SeqAt.shaped p = true) : eqD d d = some true := by
  unfold eqD
  rw [h]
  simp only []
  rw [hs, Bool.and_self, if_pos rfl, SeqAt.eqv_refl p (SeqAt.canLay_of_shaped hs)]
section
variable {S : Sto} {Q : Vl → Sto → Prop}
theorem w_eqL {ns ms : List Int} : wp (cEqX (.d (.lst (ns.map D.int))) (.d (.lst (ms.map D.int)))) S Q ↔ Q (.d (.bl (decide (ns = ms)))) S := w_eq (eqD_lst ns ms)
theorem w_neL {ns ms : List Int} : wp (cNeX (.d (.lst (ns.map D.int))) (.d (.lst (ms.map D.int)))) S Q ↔ Q (.d (.bl (!decide (ns = ms)))) S := w_ne (eqD_lst ns ms)
theorem w_eqT {ns ms : List Int} : wp (cEqX (.d (.tup (ns.map D.int))) (.d (.tup (ms.map D.int)))) S Q ↔ Q (.d (.bl (decide (ns = ms)))) S := w_eq (eqD_tup ns ms)
theorem w_neT {ns ms : List Int} : wp (cNeX (.d (.tup (ns.map D.int))) (.d (.tup (ms.map D.int)))) S Q ↔ Q (.d (.bl (!decide (ns = ms)))) S := w_ne (eqD_tup ns ms)
end
/-! ### how long a text is -/
def sumL (ts : List Str) : Nat := (ts.map fun t => t.length + 2).sum
theorem textFrom_le : ∀ (ts : List Str) (k : Nat) (acc : Str), (textFrom k acc ts).length ≤ acc.length + sumL ts
  | [], k, acc => by show acc.length ≤ _; exact Nat.le_add_right _ _
  | t :: r, k, acc => by
    have h := textFrom_le r (k + 1) (acc ++ (if k > 0 then ", " else "" : String) ++ t)
    have e : (acc ++ (if k > 0 then ", " else "" : String) ++ t : Str).length ≤ acc.length + (t.length + 2) := by
      rw [strLen_append, strLen_append]
      have : (Str.ofString (if k > 0 then ", " else "")).length ≤ 2 := by split <;> decide
      omega
    have e2 : sumL (t :: r) = (t.length + 2) + sumL r := by unfold sumL; rw [List.map_cons, List.sum_cons]
    show (textFrom (k + 1) (acc ++ (if k > 0 then ", " else "" : String) ++ t) r).length ≤ _
    omega
theorem list_le (ts : List Str) : (listText ts).length ≤ sumL ts + 2 := by
  unfold listText
  rw [strLen_append]
  have := textFrom_le ts 0 "["
  have e : ("[" : Str).length = 1 := by decide
  have e2 : ("]" : Str).length = 1 := by decide
  omega
theorem join_le : ∀ ts : List Str, (Str.join ", " ts).length ≤ sumL ts
  | [] => by show (0 : Nat) ≤ _; exact Nat.zero_le _
  | t :: r => by
    have h := join_length_add (t :: r) (by simp)
    have e : piled (t :: r) = sumL (t :: r) := by
      rfl
    omega
theorem tuple_le (ts : List Str) : (tupleText ts).length ≤ sumL ts + 3 := by
  unfold tupleText
  rw [strLen_append, strLen_append]
  have := join_le ts
  have e : ("(" : Str).length = 1 := by decide
  have e2 : (Str.ofString (if ts.length == 1 then ",)" else ")")).length ≤ 2 := by split <;> decide
  omega
theorem int_le {i : Int} {k : Nat} (hk : 0 < k) (h : i.natAbs < 10 ^ k) : (PyData.shown (.int i)).length ≤ k + 1 := by
  have := int_text_length_le10 hk h
  show (Str.ofString (toString i)).length ≤ _
  rw [Str.ofString_eq_toList]
  show (((toString i).toList.map Char.toNat).toArray).size ≤ _
  rw [List.size_toArray, List.length_map]
  exact this
theorem shownAll_ints {k : Nat} (hk : 0 < k) : ∀ ns : List Int, (∀ x ∈ ns, x.natAbs < 10 ^ k) → sumL (PyData.shownAll (ns.map PyData.int)) ≤ ns.length * (k + 3)
  | [], _ => by show (0 : Nat) ≤ _; exact Nat.zero_le _
  | n :: ns, h => by
    have ih := shownAll_ints hk ns fun x hx => h x (List.mem_cons_of_mem _ hx)
    have e := int_le hk (h n List.mem_cons_self)
    rw [List.map_cons, PyData.shownAll]
    have e2 : sumL (PyData.shown (.int n) :: PyData.shownAll (ns.map PyData.int)) = ((PyData.shown (.int n)).length + 2) + sumL (PyData.shownAll (ns.map PyData.int)) := by unfold sumL; rw [List.map_cons, List.sum_cons]
    rw [e2, List.length_cons, Nat.succ_mul]
    omega
theorem tup_shown_le {k : Nat} (hk : 0 < k) (ns : List Int) (h : ∀ x ∈ ns, x.natAbs < 10 ^ k) : (PyData.shown (.tuple (ns.map PyData.int))).length ≤ ns.length * (k + 3) + 3 := by
  rw [PyData.shown]
  have := tuple_le (PyData.shownAll (ns.map PyData.int))
  have := shownAll_ints hk ns h
  omega
theorem showable_ints : ∀ ns : List Int, (∀ x ∈ ns, x.natAbs.log2 < 1920) → PyData.showableAll (ns.map PyData.int) = true
  | [], _ => rfl
  | n :: ns, h => by
    rw [List.map_cons, PyData.showableAll, showable_ints ns fun x hx => h x (List.mem_cons_of_mem _ hx), Bool.and_true, PyData.showable]
    exact decide_eq_true (h n List.mem_cons_self)
theorem noDict_ints : ∀ ns : List Int, PyData.hasDictAll (ns.map PyData.int) = false
  | [] => rfl
  | n :: ns => by
    rw [List.map_cons, PyData.hasDictAll, noDict_ints ns, PyData.hasDict]
    rfl
end Dz

/-! Lim1: sets of limits in plain Lean: parts, members, the least period and the least first. -/
namespace Lim
structure Pt where
  few : List Int
  fst : Int
  per : Int
  rst : List Int
structure Ok (p : Pt) : Prop where
  f0 : 0 ≤ p.fst
  f1 : p.fst ≤ 2000
  p0 : 1 ≤ p.per
  p1 : p.per ≤ 2000
  fa : p.few.Pairwise (· < ·)
  fb : ∀ x ∈ p.few, 0 ≤ x ∧ x < p.fst
  ra : p.rst.Pairwise (· < ·)
  rb : ∀ x ∈ p.rst, 0 ≤ x ∧ x < p.per
def has (p : Pt) (n : Int) : Bool := if n < p.fst then decide (n ∈ p.few) else decide (n % p.per ∈ p.rst)
def upto (lo : Int) (n : Nat) : List Int := (List.range n).map fun (i : Nat) => lo + (i : Int)
def downs (lo : Int) (n : Nat) : List Int := (List.range n).map fun (i : Nat) => lo - (i : Int)
theorem mem_ints {lo x : Int} {n : Nat} : x ∈ upto lo n ↔ lo ≤ x ∧ x < lo + n := by
  unfold upto
  rw [List.mem_map]
  constructor
  · rintro ⟨i, hi, rfl⟩
    rw [List.mem_range] at hi
    omega
  · rintro ⟨h1, h2⟩
    exact ⟨(x - lo).toNat, List.mem_range.mpr (by omega), by omega⟩
theorem ints_asc (lo : Int) (n : Nat) : (upto lo n).Pairwise (· < ·) := by
  unfold upto
  rw [List.pairwise_map]
  exact List.pairwise_lt_range.imp fun h => by omega
theorem asc_nodup {l : List Int} (h : l.Pairwise (· < ·)) : l.Nodup := h.imp fun h => by omega
/-- ascending lists with the same members are the same -/
theorem asc_ext {l k : List Int} (h1 : l.Pairwise (· < ·)) (h2 : k.Pairwise (· < ·)) (h : ∀ x, x ∈ l ↔ x ∈ k) : l = k := by
  have hp : l.Perm k := (List.perm_ext_iff_of_nodup (asc_nodup h1) (asc_nodup h2)).mpr h
  exact hp.eq_of_pairwise (le := (· < ·)) (fun a b _ _ h1 h2 => by omega) h1 h2
/-! ### periods -/
def hasPer (rst : List Int) (per less : Int) : Bool := (upto 0 per.toNat).all fun r => decide (r ∈ rst) == decide ((r + less) % per ∈ rst)
def PerOk (rst : List Int) (per q : Int) : Prop := ∀ n : Int, n % per ∈ rst ↔ (n + q) % per ∈ rst
theorem hasPer_iff {rst : List Int} {per q : Int} (h : 1 ≤ per) : hasPer rst per q = true ↔ PerOk rst per q := by
  unfold hasPer
  rw [List.all_eq_true]
  constructor
  · intro k n
    have h1 := Int.emod_nonneg n (show per ≠ 0 by omega)
    have h2 := Int.emod_lt_of_pos n (show 0 < per by omega)
    have := k (n % per) (mem_ints.mpr ⟨h1, by omega⟩)
    rw [beq_iff_eq, decide_eq_decide] at this
    rw [this, Int.emod_add_emod]
  · intro k r hr
    rw [mem_ints] at hr
    have := k r
    rw [Int.emod_eq_of_lt (by omega) (by omega)] at this
    rw [beq_iff_eq, decide_eq_decide]
    exact this
theorem PerOk.self {rst : List Int} {per : Int} : PerOk rst per per := fun n => by rw [Int.add_emod_right]
theorem PerOk.sub {rst : List Int} {per a b : Int} (ha : PerOk rst per a) (hb : PerOk rst per b) : PerOk rst per (a - b) := fun n => by
  have h1 := ha n
  have h2 := hb (n + (a - b))
  rw [show n + (a - b) + b = n + a by omega] at h2
  rw [h1, h2]
theorem PerOk.zero {rst : List Int} {per : Int} : PerOk rst per 0 := fun n => by rw [Int.add_zero]
theorem PerOk.add {rst : List Int} {per a b : Int} (ha : PerOk rst per a) (hb : PerOk rst per b) : PerOk rst per (a + b) := by
  have := ha.sub (PerOk.zero.sub hb)
  rwa [show a - (0 - b) = a + b by omega] at this
theorem PerOk.mulN {rst : List Int} {per a : Int} (ha : PerOk rst per a) : ∀ k : Nat, PerOk rst per (a * k)
  | 0 => by simpa using (PerOk.zero (rst := rst) (per := per))
  | k + 1 => by
    have := (PerOk.mulN ha k).add ha
    rwa [show a * (k : Int) + a = a * ((k + 1 : Nat) : Int) by rw [Int.natCast_add, Int.mul_add]; simp] at this
theorem PerOk.mul {rst : List Int} {per a : Int} (ha : PerOk rst per a) (k : Int) : PerOk rst per (a * k) := by
  rcases Int.le_total 0 k with h | h
  · obtain ⟨n, rfl⟩ := Int.eq_ofNat_of_zero_le h
    exact ha.mulN n
  · obtain ⟨n, hn⟩ := Int.eq_ofNat_of_zero_le (show 0 ≤ -k by omega)
    have := PerOk.zero.sub (ha.mulN n)
    rwa [show (0 : Int) - a * (n : Int) = a * k by rw [← hn, Int.mul_neg]; omega] at this
theorem PerOk.mod {rst : List Int} {per q : Int} (hq : PerOk rst per q) : PerOk rst per (per % q) := by
  rw [Int.emod_def]
  exact PerOk.self.sub (hq.mul _)
/-- the least q with PerOk divides the period -/
theorem least_dvd {rst : List Int} {per q : Int} (h1 : 1 ≤ q) (hq : PerOk rst per q) (hl : ∀ q', 1 ≤ q' → q' < q → ¬ PerOk rst per q') : per % q = 0 := by
  have a := Int.emod_nonneg per (show q ≠ 0 by omega)
  have b := Int.emod_lt_of_pos per (show 0 < q by omega)
  apply Classical.byContradiction
  intro hc
  exact hl (per % q) (by omega) b hq.mod
def lpers (rst : List Int) (per : Int) : List Int := (upto 1 per.toNat).filter fun q => decide (per % q = 0) && hasPer rst per q
theorem mem_lpers {rst : List Int} {per q : Int} (h : 1 ≤ per) : q ∈ lpers rst per ↔ 1 ≤ q ∧ q ≤ per ∧ per % q = 0 ∧ PerOk rst per q := by
  unfold lpers
  rw [List.mem_filter, mem_ints, Bool.and_eq_true, decide_eq_true_eq, hasPer_iff h]
  constructor
  · rintro ⟨⟨a, b⟩, c, d⟩
    exact ⟨a, by omega, c, d⟩
  · rintro ⟨a, b, c, d⟩
    exact ⟨⟨a, by omega⟩, c, d⟩
def lper (rst : List Int) (per : Int) : Int := (lpers rst per).min?.getD 0
/-- there is a least one among those -/
theorem least_of {P : Int → Prop} : ∀ (n : Nat) (m : Int), m = 1 + (n : Int) → P m → ∃ q, 1 ≤ q ∧ q ≤ m ∧ P q ∧ ∀ q', 1 ≤ q' → q' < q → ¬ P q' := by
  intro n
  induction n using Nat.strongRecOn with
  | _ n ih =>
    intro m hm hp
    by_cases h : ∃ q', 1 ≤ q' ∧ q' < m ∧ P q'
    · obtain ⟨q', a, b, c⟩ := h
      obtain ⟨q, x, y, z, u⟩ := ih (q' - 1).toNat (by omega) q' (by omega) c
      exact ⟨q, x, by omega, z, u⟩
    · exact ⟨m, by omega, Int.le_refl _, hp, fun q' a b c => h ⟨q', a, b, c⟩⟩
theorem lper_spec {rst : List Int} {per : Int} (h : 1 ≤ per) : (lpers rst per).min? = some (lper rst per) ∧ 1 ≤ lper rst per ∧ lper rst per ≤ per ∧ per % lper rst per = 0 ∧ PerOk rst per (lper rst per) ∧ ∀ q, 1 ≤ q → PerOk rst per q → lper rst per ≤ q := by
  obtain ⟨q, a, b, c, d⟩ := least_of (P := PerOk rst per) (per - 1).toNat per (by omega) PerOk.self
  have hd := least_dvd a c d
  have e : (lpers rst per).min? = some q := by
    rw [List.min?_eq_some_iff]
    refine ⟨(mem_lpers h).mpr ⟨a, b, hd, c⟩, fun x hx => ?_⟩
    obtain ⟨h1, _, _, h4⟩ := (mem_lpers h).mp hx
    rcases Int.lt_or_le x q with k | k
    · exact absurd h4 (d x h1 k)
    · exact k
  have e2 : lper rst per = q := by unfold lper; rw [e]; rfl
  rw [e2]
  refine ⟨e, a, b, hd, c, fun x hx hp => ?_⟩
  rcases Int.lt_or_le x q with k | k
  · exact absurd hp (d x hx k)
  · exact k
/-! ### firsts -/
def odd (few : List Int) (per : Int) (rst : List Int) (n : Int) : Bool := decide (n ∈ few) != decide (n % per ∈ rst)
def lfirst (few : List Int) (fst per : Int) (rst : List Int) : Int := match (downs (fst - 1) fst.toNat).find? (odd few per rst) with
  | some n => n + 1
  | none => 0
theorem find_downs {P : Int → Bool} : ∀ (n : Nat) (lo : Int), (match (downs lo n).find? P with
    | some x => (lo - n < x ∧ x ≤ lo) ∧ P x = true ∧ ∀ y, x < y → y ≤ lo → P y = false
    | none => ∀ y, lo - n < y → y ≤ lo → P y = false) := by
  intro n
  induction n with
  | zero =>
    intro lo
    show ∀ y, _
    intro y h1 h2
    omega
  | succ n ih =>
    intro lo
    have e : downs lo (n + 1) = lo :: downs (lo - 1) n := by
      unfold downs
      rw [List.range_succ_eq_map, List.map_cons, List.map_map]
      congr 1
      · omega
      · apply List.map_congr_left
        intro a _
        show lo - ((a + 1 : Nat) : Int) = _
        omega
    rw [e, List.find?_cons]
    cases hp : P lo with
    | true =>
      simp only []
      exact ⟨by omega, hp, fun y a b => by omega⟩
    | false =>
      simp only []
      have := ih (lo - 1)
      split
      · rename_i x q
        rw [q] at this
        obtain ⟨a, b, c⟩ := this
        refine ⟨by omega, b, fun y h1 h2 => ?_⟩
        by_cases hy : y = lo
        · rw [hy]; exact hp
        · exact c y h1 (by omega)
      · rename_i q
        rw [q] at this
        intro y h1 h2
        by_cases hy : y = lo
        · rw [hy]; exact hp
        · exact this y (by omega) (by omega)
theorem lfirst_spec {few : List Int} {fst per : Int} {rst : List Int} (h : 0 ≤ fst) : 0 ≤ lfirst few fst per rst ∧ lfirst few fst per rst ≤ fst ∧ (∀ n, lfirst few fst per rst ≤ n → n < fst → odd few per rst n = false) ∧ (lfirst few fst per rst = 0 ∨ odd few per rst (lfirst few fst per rst - 1) = true) := by
  have k := find_downs (P := odd few per rst) fst.toNat (fst - 1)
  unfold lfirst
  cases q : (downs (fst - 1) fst.toNat).find? (odd few per rst) with
  | none =>
    rw [q] at k
    simp only [] at k ⊢
    exact ⟨Int.le_refl _, h, fun n a b => k n (by omega) (by omega), by first | exact .inl rfl | exact .inl trivial⟩
  | some x =>
    rw [q] at k
    simp only [] at k ⊢
    obtain ⟨a, b, c⟩ := k
    refine ⟨by omega, by omega, fun n h1 h2 => c n (by omega) (by omega), .inr ?_⟩
    rw [show x + 1 - 1 = x by omega]
    exact b
/-! ### the form by the least -/
def canon (p : Pt) : Pt :=
  let q := lper p.rst p.per
  let r := p.rst.filter fun x => decide (x < q)
  let f := lfirst p.few p.fst q r
  ⟨p.few.filter fun x => decide (x < f), f, q, r⟩
section
variable {p : Pt} (k : Ok p)
include k
/-- from the first on, a number is told by its rest of the least period -/
theorem rest_least (n : Int) : n % p.per ∈ p.rst ↔ n % (canon p).per ∈ (canon p).rst := by
  obtain ⟨_, q1, q2, qd, qp, _⟩ := lper_spec (rst := p.rst) k.p0
  have qd' : (lper p.rst p.per) ∣ p.per := Int.dvd_of_emod_eq_zero qd
  show _ ↔ n % lper p.rst p.per ∈ p.rst.filter fun x => decide (x < lper p.rst p.per)
  rw [List.mem_filter, decide_eq_true_eq]
  have b := Int.emod_lt_of_pos n (show 0 < lper p.rst p.per by omega)
  have a := Int.emod_nonneg n (show lper p.rst p.per ≠ 0 by omega)
  have e : n = n % lper p.rst p.per + lper p.rst p.per * (n / lper p.rst p.per) := by
    have := Int.emod_add_mul_ediv n (lper p.rst p.per)
    omega
  have h := (qp.mul (n / lper p.rst p.per)) (n % lper p.rst p.per)
  rw [← e] at h
  have h2 : n % lper p.rst p.per % p.per = n % lper p.rst p.per := Int.emod_eq_of_lt a (by omega)
  rw [h2] at h
  rw [← h]
  exact ⟨fun z => ⟨z, b⟩, fun z => z.1⟩
theorem canon_first : 0 ≤ (canon p).fst ∧ (canon p).fst ≤ p.fst := by
  have h := lfirst_spec (few := p.few) (per := lper p.rst p.per) (rst := p.rst.filter fun x => decide (x < lper p.rst p.per)) k.f0
  exact ⟨h.1, h.2.1⟩
theorem canon_per : 1 ≤ (canon p).per ∧ (canon p).per ≤ p.per ∧ p.per % (canon p).per = 0 := by
  obtain ⟨_, q1, q2, qd, _⟩ := lper_spec (rst := p.rst) k.p0
  exact ⟨q1, q2, qd⟩
theorem canon_ok : Ok (canon p) where
  f0 := (canon_first k).1
  f1 := by have := (canon_first k).2; have := k.f1; omega
  p0 := (canon_per k).1
  p1 := by have := (canon_per k).2.1; have := k.p1; omega
  fa := k.fa.filter _
  fb := fun x hx => by
    have hx : x ∈ p.few.filter fun x => decide (x < (canon p).fst) := hx
    rw [List.mem_filter, decide_eq_true_eq] at hx
    exact ⟨(k.fb x hx.1).1, hx.2⟩
  ra := k.ra.filter _
  rb := fun x hx => by
    have hx : x ∈ p.rst.filter fun x => decide (x < (canon p).per) := hx
    rw [List.mem_filter, decide_eq_true_eq] at hx
    exact ⟨(k.rb x hx.1).1, hx.2⟩
/-- behind the least first, a number is told by its rest -/
theorem has_far {n : Int} (h : (canon p).fst ≤ n) : has p n = decide (n % (canon p).per ∈ (canon p).rst) := by
  have h0 := lfirst_spec (few := p.few) (per := lper p.rst p.per) (rst := p.rst.filter fun x => decide (x < lper p.rst p.per)) k.f0
  unfold has
  by_cases hn : n < p.fst
  · rw [if_pos hn]
    have := h0.2.2.1 n h hn
    unfold odd at this
    rw [bne_eq_false_iff_eq] at this
    exact this
  · rw [if_neg hn, decide_eq_decide]
    exact rest_least k n
theorem canon_has (n : Int) : has (canon p) n = has p n := by
  by_cases h : n < (canon p).fst
  · have := (canon_first k).2
    unfold has
    rw [if_pos h, if_pos (by omega), decide_eq_decide]
    show n ∈ p.few.filter (fun x => decide (x < (canon p).fst)) ↔ _
    rw [List.mem_filter, decide_eq_true_eq]
    exact ⟨fun z => z.1, fun z => ⟨z, h⟩⟩
  · rw [has_far k (by omega)]
    unfold has
    rw [if_neg h]
/-- it comes round -/
theorem has_round {n : Int} (h : (canon p).fst ≤ n) : has p (n + (canon p).per) = has p n := by
  have := (canon_per k).1
  rw [has_far k h, has_far k (by omega), Int.add_emod_right]
/-- the least period -/
theorem per_least {q N : Int} (h1 : 1 ≤ q) (h : ∀ n, N ≤ n → has p n = has p (n + q)) : (canon p).per ≤ q := by
  obtain ⟨_, q1, q2, qd, qp, ql⟩ := lper_spec (rst := p.rst) k.p0
  refine ql q h1 fun n => ?_
  -- a number that is far enough and has the same rest
  have hp := k.p0
  obtain ⟨m, hm1, hm2, hm3⟩ : ∃ m : Int, N ≤ m ∧ p.fst ≤ m ∧ m % p.per = n % p.per := by
    refine ⟨n + p.per * (n.natAbs + N.natAbs + p.fst.natAbs), ?_, ?_, by rw [Int.add_mul_emod_self_left]⟩
    · have : (1 : Int) * ((n.natAbs : Int) + N.natAbs + p.fst.natAbs) ≤ p.per * ((n.natAbs : Int) + N.natAbs + p.fst.natAbs) := Int.mul_le_mul_of_nonneg_right hp (by omega)
      omega
    · have : (1 : Int) * ((n.natAbs : Int) + N.natAbs + p.fst.natAbs) ≤ p.per * ((n.natAbs : Int) + N.natAbs + p.fst.natAbs) := Int.mul_le_mul_of_nonneg_right hp (by omega)
      omega
  have := h m hm1
  unfold has at this
  rw [if_neg (by omega), if_neg (by omega), decide_eq_decide, hm3] at this
  rw [this, Int.add_emod m q, hm3, ← Int.add_emod]
/-- the least first -/
theorem first_least {N : Int} (h0 : 0 ≤ N) (h : ∀ n, N ≤ n → has p n = has p (n + (canon p).per)) : (canon p).fst ≤ N := by
  have hs := lfirst_spec (few := p.few) (per := lper p.rst p.per) (rst := p.rst.filter fun x => decide (x < lper p.rst p.per)) k.f0
  have hp := (canon_per k).1
  rcases Int.lt_or_le N (canon p).fst with c | c
  · exfalso
    have hf : (canon p).fst - 1 < p.fst := by have := (canon_first k).2; omega
    have e := h ((canon p).fst - 1) (by omega)
    rw [has_far k (n := (canon p).fst - 1 + (canon p).per) (by omega), Int.add_emod_right] at e
    rcases hs.2.2.2 with z | z
    · have z : (canon p).fst = 0 := z
      omega
    · have z : odd p.few (canon p).per (canon p).rst ((canon p).fst - 1) = true := z
      unfold odd at z
      unfold has at e
      rw [if_pos hf] at e
      rw [e] at z
      simp at z
  · exact c
theorem mem_few {n : Int} : n ∈ (canon p).few ↔ 0 ≤ n ∧ n < (canon p).fst ∧ has p n = true := by
  rw [← canon_has k]
  constructor
  · intro h
    have := (canon_ok k).fb n h
    refine ⟨this.1, this.2, ?_⟩
    unfold has
    rw [if_pos this.2]
    exact decide_eq_true h
  · rintro ⟨_, b, c⟩
    unfold has at c
    rw [if_pos b] at c
    exact of_decide_eq_true c
theorem mem_rst {r : Int} : r ∈ (canon p).rst ↔ 0 ≤ r ∧ r < (canon p).per ∧ has p ((canon p).fst + (r - (canon p).fst) % (canon p).per) = true := by
  have hp := (canon_per k).1
  have key : 0 ≤ r → r < (canon p).per → (has p ((canon p).fst + (r - (canon p).fst) % (canon p).per) = true ↔ r ∈ (canon p).rst) := fun a b => by
    have h := Int.emod_nonneg (r - (canon p).fst) (show (canon p).per ≠ 0 by omega)
    rw [has_far k (by omega), decide_eq_true_eq]
    have e : ((canon p).fst + (r - (canon p).fst) % (canon p).per) % (canon p).per = r := by
      rw [Int.add_emod_emod, show (canon p).fst + (r - (canon p).fst) = r by omega]
      exact Int.emod_eq_of_lt a b
    rw [e]
  constructor
  · intro h
    have := (canon_ok k).rb r h
    exact ⟨this.1, this.2, (key this.1 this.2).mpr h⟩
  · rintro ⟨a, b, c⟩
    exact (key a b).mp c
end
/-- the form is told by the members -/
theorem canon_uniq {p p' : Pt} (k : Ok p) (k' : Ok p') (h : ∀ n, 0 ≤ n → has p n = has p' n) : canon p = canon p' := by
  have f0 := (canon_first k).1
  have f0' := (canon_first k').1
  have q0 := (canon_per k).1
  have q0' := (canon_per k').1
  have e1 : (canon p).per = (canon p').per := by
    apply Int.le_antisymm
    · exact per_least k (N := (canon p').fst) q0' fun n hn => by rw [h n (by omega), h _ (by omega), has_round k' hn]
    · exact per_least k' (N := (canon p).fst) q0 fun n hn => by rw [← h n (by omega), ← h _ (by omega), has_round k hn]
  have e2 : (canon p).fst = (canon p').fst := by
    apply Int.le_antisymm
    · exact first_least k f0' fun n hn => by rw [e1, h n (by omega), h _ (by omega), has_round k' hn]
    · exact first_least k' f0 fun n hn => by rw [← e1, ← h n (by omega), ← h _ (by omega), has_round k hn]
  have e3 : (canon p).few = (canon p').few := asc_ext (canon_ok k).fa (canon_ok k').fa fun x => by
    rw [mem_few k, mem_few k', e2]
    constructor
    · rintro ⟨a, b, c⟩; exact ⟨a, b, by rw [← h x a]; exact c⟩
    · rintro ⟨a, b, c⟩; exact ⟨a, b, by rw [h x a]; exact c⟩
  have e4 : (canon p).rst = (canon p').rst := asc_ext (canon_ok k).ra (canon_ok k').ra fun x => by
    rw [mem_rst k, mem_rst k', e2, e1]
    have g := Int.emod_nonneg (x - (canon p').fst) (show (canon p').per ≠ 0 by omega)
    constructor
    · rintro ⟨a, b, c⟩; exact ⟨a, b, by rw [← h _ (by omega)]; exact c⟩
    · rintro ⟨a, b, c⟩; exact ⟨a, b, by rw [h _ (by omega)]; exact c⟩
  cases hc : canon p
  cases hc' : canon p'
  rw [hc, hc'] at e1 e2 e3 e4
  simp only at e1 e2 e3 e4
  subst e1 e2 e3 e4
  rfl
/-- .. and tells them -/
theorem canon_eq_iff {p p' : Pt} (k : Ok p) (k' : Ok p') : canon p = canon p' ↔ ∀ n, 0 ≤ n → has p n = has p' n :=
  ⟨fun e n _ => by rw [← canon_has k, e, canon_has k'], canon_uniq k k'⟩
end Lim

/-! Dz19: helpers for the plain proofs: comprehensions and loops over ints. -/
namespace Dz
open PySem PySem.Spec PyProof.Rows L2
theorem isi_eq {cs : List Str} {tab : Tab} {x y : D} {t u : Ty} {k : Bool} (h1 : tyD x = some t) (h2 : tyIn cs t = true) (h3 : clT y = some u) (h4 : isQ tab t u = some k) : bIsiX cs tab [.d x, .d y] = pur (.d (.bl k)) := by
  funext S
  show bnd (tyM (.d x)) _ S = _
  have e : tyM (.d x) S = .ok t S := by
    unfold tyM
    simp only []
    rw [h1]
  unfold bnd
  rw [e]
  simp only []
  rw [if_pos h2, h3]
  show opt (isQ tab t u) _ S = _
  rw [h4]
  rfl
theorem fn_by {N : Nat} {s : Env → M Out} {xs : List Vl} {y : D} (h : ∀ S (Q : Out → Sto → Prop), Q (.rt (.d y)) S → wp (s (startE N xs)) S Q) : fnM N s xs = pur (.d y) := fnM_rt (pur_wp h)
/-- a def that ends without return -/
theorem wp_fnN {N : Nat} {s : Env → M Out} {xs : List Vl} {S : Sto} {Q : Vl → Sto → Prop} (h : wp (s (startE N xs)) S fun o S' => (∃ ρ, o = .nx ρ) ∧ Q (.d .non) (S'.take S.length)) : wp (fnM N s xs) S Q := by
  obtain ⟨o, S', e, ⟨ρ, rfl⟩, q⟩ := h
  refine ⟨.d .non, S'.take S.length, ?_, q⟩
  unfold fnM
  rw [e]
  rfl
theorem dInts_ints (lo : Int) (n : Nat) : dInts lo n = (Lim.upto lo n).map D.int := by
  unfold dInts Lim.upto
  rw [List.map_map]
  rfl
theorem dDown_downs (lo : Int) (n : Nat) : dDown lo n = (Lim.downs lo n).map D.int := by
  unfold dDown Lim.downs
  rw [List.map_map]
  rfl
theorem ints_len (lo : Int) (n : Nat) : (Lim.upto lo n).length = n := by unfold Lim.upto; rw [List.length_map, List.length_range]
/-- a comprehension over ints that leaves the store -/
theorem lcL_ints {i : Nat} {p : Env → M Bool} {f : Env → M Vl} {ρ : Env} {b : Int → Bool} {v : Int → D} (l : List Int) (h : ∀ n ∈ l, p (ρ.set i (some (.d (.int n)))) = pur (b n) ∧ (b n = true → f (ρ.set i (some (.d (.int n)))) = pur (.d (v n)))) :
    lcL (.one i) p f ρ (l.map D.int) = pur ((l.filter b).map v) := lcL_map (ρ1 := fun n => ρ.set i (some (.d (.int n)))) l fun n hn => ⟨rfl, (h n hn).1, (h n hn).2⟩
theorem lcL_all {i : Nat} {f : Env → M Vl} {ρ : Env} {v : Int → D} (l : List Int) (h : ∀ n ∈ l, f (ρ.set i (some (.d (.int n)))) = pur (.d (v n))) : lcL (.one i) bYes f ρ (l.map D.int) = pur (l.map v) := by
  rw [lcL_ints (b := fun _ => true) l fun n hn => ⟨rfl, fun _ => h n hn⟩, List.filter_eq_self.mpr fun _ _ => rfl]
theorem w_lc' {it : Env → M (List D)} {tg : Tgt} {p : Env → M Bool} {f : Env → M Vl} {own : List Nat} {ρ : Env} {S : Sto} {Q : List D → Sto → Prop} {ds rs : List D} (h0 : it ρ = pur ds) (hl : ds.length ≤ 100000) (h : lcL tg p f (wipeE ρ own) ds = pur rs) : wp (lcF it tg p f own ρ) S Q ↔ Q rs S := by
  unfold lcF
  rw [h0, bnd_ret, if_pos hl, h, noE_pur, wp_pur]
/-- the keys of ints -/
def ksI (l : List Int) : List (Key × D) := l.foldl (fun acc n => putD acc (.inl n) (.bl true)) []
theorem hasK_put {kvs : List (Key × D)} {k k' : Key} {d : D} : hasK (putD kvs k d) k' = (hasK kvs k' || decide (k = k')) := by
  unfold putD
  split
  · rename_i h
    have e : hasK (kvs.map fun kv => if kv.1 = k then (kv.1, d) else kv) k' = hasK kvs k' := by
      unfold hasK
      rw [List.any_map]
      congr 1
      funext kv
      show decide ((if kv.1 = k then (kv.1, d) else kv).1 = k') = _
      split <;> rfl
    rw [e]
    by_cases hk : k = k'
    · subst hk
      have : hasK kvs k = true := h
      rw [this]
      rfl
    · rw [decide_eq_false hk, Bool.or_false]
  · unfold hasK
    rw [List.any_append, List.any_cons, List.any_nil, Bool.or_false]
theorem hasK_fold (i : Int) : ∀ (l : List Int) (acc : List (Key × D)), hasK (l.foldl (fun acc n => putD acc (.inl n) (.bl true)) acc) (.inl i) = (hasK acc (.inl i) || decide (i ∈ l))
  | [], acc => by simp
  | n :: l, acc => by
    rw [List.foldl_cons, hasK_fold i l, hasK_put]
    by_cases h : n = i
    · subst h; simp
    · have h' : ¬ i = n := fun z => h z.symm
      have e : decide ((Sum.inl n : Key) = .inl i) = false := decide_eq_false fun z => h (by cases z; rfl)
      rw [e]
      simp [h']
theorem hasK_ints (l : List Int) (i : Int) : hasK (ksI l) (.inl i) = decide (i ∈ l) := by
  unfold ksI
  rw [hasK_fold]
  rfl
theorem dcL_ints {i : Nat} {f g : Env → M Vl} {ρ : Env} : ∀ (l : List Int) (acc : List (Key × D)), (∀ n, f (ρ.set i (some (.d (.int n)))) = pur (.d (.int n)) ∧ g (ρ.set i (some (.d (.int n)))) = pur (.d (.bl true))) → dcL (.one i) bYes f g ρ acc (l.map D.int) = pur (l.foldl (fun acc n => putD acc (.inl n) (.bl true)) acc)
  | [], acc, h => rfl
  | n :: l, acc, h => by
    rw [List.map_cons]
    unfold dcL
    show bnd (f (ρ.set i (some (.d (.int n))))) _ = _
    rw [(h n).1, bnd_ret, (h n).2, bnd_ret]
    show dcL (.one i) bYes f g ρ (putD acc (.inl n) (.bl true)) (l.map D.int) = _
    rw [dcL_ints l _ h, List.foldl_cons]
theorem w_dc' {it : Env → M (List D)} {i : Nat} {f g : Env → M Vl} {own : List Nat} {ρ : Env} {S : Sto} {Q : Vl → Sto → Prop} {l : List Int} (h0 : it ρ = pur (l.map D.int)) (hl : l.length ≤ 100000) (h : ∀ n, f ((wipeE ρ own).set i (some (.d (.int n)))) = pur (.d (.int n)) ∧ g ((wipeE ρ own).set i (some (.d (.int n)))) = pur (.d (.bl true))) :
    wp (eDc it (.one i) bYes f g own ρ) S Q ↔ Q (.d (.dct (ksI l))) S := by
  unfold eDc
  rw [h0, bnd_ret, if_pos (by rw [List.length_map]; exact hl), dcL_ints l [] h, noE_pur, bnd_ret]
  exact wp_pur
/-- a loop over ints that leaves at the first one with P -/
theorem forL_find {i : Nat} {s : Env → M Out} {P : Int → Bool} {r : Int → Vl} : ∀ (l : List Int) (ρ : Env), (∀ n ∈ l, ∀ ρ', (∃ m, ρ' = ρ ∨ ρ' = ρ.set i (some (.d (.int m)))) → s (ρ'.set i (some (.d (.int n)))) = if P n = true then pur (.rt (r n)) else pur (.nx (ρ'.set i (some (.d (.int n)))))) →
    ∃ ρ1, forL (.one i) s (l.map D.int) ρ = match l.find? P with
      | some n => pur (.rt (r n))
      | none => pur (.nx ρ1) := by
  intro l ρ h
  have key : ∀ (k : List Int) (ρ' : Env), (∀ n ∈ k, n ∈ l) → (∃ m, ρ' = ρ ∨ ρ' = ρ.set i (some (.d (.int m)))) → ∃ ρ1, (forL (.one i) s (k.map D.int) ρ' = match k.find? P with
      | some n => pur (.rt (r n))
      | none => pur (.nx ρ1)) ∧ ∃ m, ρ1 = ρ ∨ ρ1 = ρ.set i (some (.d (.int m))) := by
    intro k
    induction k with
    | nil => exact fun ρ' _ hm => ⟨ρ', rfl, hm⟩
    | cons n k ih =>
      intro ρ' hk hm
      have hs := h n (hk n List.mem_cons_self) ρ' hm
      have hm2 : ∃ m, ρ'.set i (some (.d (.int n))) = ρ ∨ ρ'.set i (some (.d (.int n))) = ρ.set i (some (.d (.int m))) := by
        refine ⟨n, .inr ?_⟩
        obtain ⟨m, e | e⟩ := hm
        · rw [e]
        · rw [e, List.set_set]
      obtain ⟨ρ1, e1, hm1⟩ := ih (ρ'.set i (some (.d (.int n)))) (fun x hx => hk x (List.mem_cons_of_mem _ hx)) hm2
      rw [List.map_cons]
      unfold forL
      cases hp : P n with
      | true =>
        refine ⟨ρ1, ?_, hm1⟩
        show bnd (s (ρ'.set i (some (.d (.int n))))) _ = _
        rw [hs, if_pos hp, bnd_ret, List.find?_cons, hp]
      | false =>
        refine ⟨ρ1, ?_, hm1⟩
        show bnd (s (ρ'.set i (some (.d (.int n))))) _ = _
        rw [hs, if_neg (by rw [hp]; decide), bnd_ret, List.find?_cons, hp]
        exact e1
  obtain ⟨ρ1, e, _⟩ := key l ρ (fun _ h => h) ⟨0, .inl rfl⟩
  exact ⟨ρ1, e⟩
theorem cut_tail {α : Type} (xs : List α) : cut xs (some 1) none = xs.drop 1 := by
  unfold cut
  cases xs with
  | nil => rfl
  | cons x xs =>
    have h1 : HT.sIx (x :: xs).length 0 (some 1) = 1 := by
      unfold HT.sIx
      simp
    have h2 : HT.sIx (x :: xs).length (x :: xs).length none = (x :: xs).length := rfl
    rw [h1, h2]
    exact List.take_of_length_le (by rw [List.length_drop]; exact Nat.le_refl _)
theorem zip_ints : ∀ l k : List Int, zipD (l.map D.int) (k.map D.int) = (l.zip k).map fun p => D.tup [.int p.1, .int p.2]
  | [], _ => rfl
  | _ :: _, [] => rfl
  | a :: l, b :: k => by
    have := zip_ints l k
    unfold zipD at this ⊢
    rw [List.map_cons, List.map_cons, List.zip_cons_cons, List.map_cons, this, List.zip_cons_cons, List.map_cons]
/-- one behind the other -/
theorem asc_pairs : ∀ l : List Int, l.Pairwise (· < ·) → ∀ p ∈ l.zip (l.drop 1), p.1 < p.2
  | [], _, p, h => by simp at h
  | [a], _, p, h => by simp at h
  | a :: b :: l, h, p, hp => by
    rw [List.drop_one, List.tail_cons, List.zip_cons_cons] at hp
    rcases List.mem_cons.mp hp with rfl | hp
    · exact (List.pairwise_cons.mp h).1 b List.mem_cons_self
    · exact asc_pairs (b :: l) (List.pairwise_cons.mp h).2 p (by rw [List.drop_one, List.tail_cons]; exact hp)
end Dz

/-! Dz20: a young instance at the store's end; comprehensions at a store; items of lists. -/
namespace Dz
open PySem PySem.Spec PyProof.Rows L2
theorem set_last {α : Type} (S : List α) (x y : α) : (S ++ [x]).set S.length y = S ++ [y] := by
  rw [List.set_append_right _ _ (Nat.le_refl _), Nat.sub_self]
  rfl
section
variable {S : Sto} {cs : List Str} {x c : Str} {fl : List (Str × D)} {d : D}
theorem w_stL {Q : Unit → Sto → Prop} (h1 : c ∈ cs) (h2 : fl.length < 1000) : wp (stF cs x (.c S.length) (.d d)) (S ++ [.ins c fl]) Q ↔ Q () (S ++ [.ins c (putFD x d fl)]) := by
  rw [w_stF List.getElem?_concat_length h1 h2, set_last]
theorem w_fldL {Q : Vl → Sto → Prop} (h1 : c ∈ cs) (h2 : fl.lookup x = some d) : wp (fld cs x (.c S.length)) (S ++ [.ins c fl]) Q ↔ Q (.d d) (S ++ [.ins c fl]) := w_fldC List.getElem?_concat_length h1 h2
end
/-- what a computation gives at a store -/
theorem at_wp {α : Type} {p : M α} {a : α} {S : Sto} (h : ∀ Q : α → Sto → Prop, Q a S → wp p S Q) : p S = .ok a S := by
  obtain ⟨b, S', e, rfl, rfl⟩ := h (fun x S' => x = a ∧ S' = S) ⟨rfl, rfl⟩
  exact e
theorem lcL_at {i : Nat} {p : Env → M Bool} {f : Env → M Vl} {ρ : Env} {b : Int → Bool} {v : Int → D} {S : Sto} : ∀ (l : List Int), (∀ n ∈ l, p (ρ.set i (some (.d (.int n)))) S = .ok (b n) S ∧ (b n = true → f (ρ.set i (some (.d (.int n)))) S = .ok (.d (v n)) S)) → lcL (.one i) p f ρ (l.map D.int) S = .ok ((l.filter b).map v) S
  | [], _ => rfl
  | n :: l, h => by
    obtain ⟨h1, h2⟩ := h n List.mem_cons_self
    have ih := lcL_at (b := b) (v := v) l fun x hx => h x (List.mem_cons_of_mem _ hx)
    rw [List.map_cons]
    unfold lcL
    show bnd (p (ρ.set i (some (.d (.int n))))) _ S = _
    unfold bnd
    rw [h1]
    cases hb : b n with
    | true =>
      simp only []
      rw [h2 hb]
      simp only [asD, pur]
      rw [ih, List.filter_cons, if_pos hb]
      rfl
    | false =>
      simp only []
      rw [ih, List.filter_cons, if_neg (by rw [hb]; decide)]
theorem wp_lcL {i : Nat} {p : Env → M Bool} {f : Env → M Vl} {ρ : Env} {b : Int → Bool} {v : Int → D} {S : Sto} {Q : List D → Sto → Prop} (l : List Int) (h : ∀ n ∈ l, p (ρ.set i (some (.d (.int n)))) S = .ok (b n) S ∧ (b n = true → f (ρ.set i (some (.d (.int n)))) S = .ok (.d (v n)) S)) (q : Q ((l.filter b).map v) S) : wp (lcL (.one i) p f ρ (l.map D.int)) S Q := ⟨_, _, lcL_at l h, q⟩
/-- one of the items -/
def itemsOf : D → List D
  | .lst ds => ds
  | .tup ds => ds
  | .str z => Dz.signs z
  | _ => []
theorem ixN_nat {n : Nat} {i : Int} (h0 : 0 ≤ i) (h1 : i < n) : ixN n i = some i.toNat := by
  unfold ixN
  rw [if_pos h0, if_pos (by omega)]
theorem atI_nn {α : Type} {xs : List α} {i : Int} (h0 : 0 ≤ i) (h1 : i < xs.length) : atI xs i = xs[i.toNat]? := by
  unfold atI
  rw [ixN_nat h0 h1]
  rfl
theorem ix_wp {it : D} {r : Int} {S : Sto} (hk : ∃ zs, it = .lst zs ∨ it = .tup zs ∨ ∃ z : Str, it = .str z ∧ z.length ≤ 1000) (h0 : 0 ≤ r) (h1 : r < (itemsOf it).length) : wp (gIx (.d it) (.d (.int r))) S fun x S' => ∃ y, x = .d y ∧ y ∈ itemsOf it ∧ S' = S := by
  obtain ⟨zs, rfl | rfl | ⟨z, rfl, hz⟩⟩ := hk
  · have hr : r.toNat < zs.length := by have : (itemsOf (.lst zs)).length = zs.length := rfl; omega
    refine wp_opt (a := zs[r.toNat]) ?_ (wp_pur.mpr ⟨_, rfl, List.getElem_mem hr, rfl⟩)
    rw [atI_nn h0 (show r < (zs.length : Int) from h1), List.getElem?_eq_getElem hr]
  · have hr : r.toNat < zs.length := by have : (itemsOf (.tup zs)).length = zs.length := rfl; omega
    refine wp_opt (a := zs[r.toNat]) ?_ (wp_pur.mpr ⟨_, rfl, List.getElem_mem hr, rfl⟩)
    rw [atI_nn h0 (show r < (zs.length : Int) from h1), List.getElem?_eq_getElem hr]
  · have hl : (itemsOf (.str z)).length = z.cps.toList.length := by show (Dz.signs z).length = _; unfold Dz.signs; rw [List.length_map]
    have hr : r.toNat < z.cps.toList.length := by omega
    show wp (if z.length ≤ 100000 then _ else _) S _
    rw [if_pos (by omega)]
    refine wp_opt (a := z.cps.toList[r.toNat]) ?_ (wp_pur.mpr ⟨_, rfl, ?_, rfl⟩)
    · rw [atI_nn h0 (by omega), List.getElem?_eq_getElem hr]
    · show _ ∈ Dz.signs z
      unfold Dz.signs
      exact List.mem_map.mpr ⟨_, List.getElem_mem hr, rfl⟩
theorem len_wp {it : D} {S : Sto} {Q : Vl → Sto → Prop} (hk : ∃ zs, it = .lst zs ∨ it = .tup zs ∨ ∃ z : Str, it = .str z ∧ z.length ≤ 1000) (h : Q (.d (.int (itemsOf it).length)) S) : wp (bLen [.d it]) S Q := by
  obtain ⟨zs, rfl | rfl | ⟨z, rfl, hz⟩⟩ := hk
  · exact wp_pur.mpr h
  · exact wp_pur.mpr h
  · have hl : (itemsOf (.str z)).length = z.length := by show (Dz.signs z).length = _; unfold Dz.signs; rw [List.length_map, Array.length_toList]; rfl
    rw [hl] at h
    exact (w_lenS (by omega)).mpr h
/-- a written place of a list -/
theorem w_ixL {ds : List D} {i : Nat} {d : D} {S : Sto} {Q : Vl → Sto → Prop} (h : ds[i]? = some d) : wp (gIx (.d (.lst ds)) (.d (.int (i : Int)))) S Q ↔ Q (.d d) S := by
  have hl : i < ds.length := (List.getElem?_eq_some_iff.mp h).1
  have e : gIx (.d (.lst ds)) (.d (.int (i : Int))) = pur (.d d) := by
    show opt (atI ds (i : Int)) _ = _
    rw [atI_nn (by omega) (by omega), show ((i : Int)).toNat = i by omega, h]
    rfl
  rw [e]
  exact wp_pur
/-- the same, that draws -/
theorem lcL_draw {i : Nat} {p : Env → M Bool} {f : Env → M Vl} {ρ : Env} {I : Sto → Prop} : ∀ (l : List Int) (S : Sto), I S → (∀ n ∈ l, ∀ S, I S → wp (p (ρ.set i (some (.d (.int n))))) S fun _ S' => I S') → (∀ n, f (ρ.set i (some (.d (.int n)))) = pur (.d (.int n))) →
    wp (lcL (.one i) p f ρ (l.map D.int)) S fun ys S' => (∃ ms : List Int, ms.Sublist l ∧ ys = ms.map D.int) ∧ I S'
  | [], S, hI, _, _ => wp_pur.mpr ⟨⟨[], .slnil, rfl⟩, hI⟩
  | n :: l, S, hI, h, hf => by
    rw [List.map_cons]
    unfold lcL
    show wp (bnd (p (ρ.set i (some (.d (.int n))))) _) S _
    refine wp_bnd.mpr (wp_mono (h n List.mem_cons_self S hI) ?_)
    intro b S1 hI1
    have ih := lcL_draw l S1 hI1 (fun x hx => h x (List.mem_cons_of_mem _ hx)) hf
    cases b with
    | true =>
      show wp (bnd (f (ρ.set i (some (.d (.int n))))) _) S1 _
      rw [hf n, bnd_ret]
      show wp (bnd (lcL (.one i) p f ρ (l.map D.int)) _) S1 _
      refine wp_bnd.mpr (wp_mono ih ?_)
      rintro ys S2 ⟨⟨ms, hm, rfl⟩, hI2⟩
      exact wp_pur.mpr ⟨⟨n :: ms, hm.cons₂ n, rfl⟩, hI2⟩
    | false =>
      show wp (lcL (.one i) p f ρ (l.map D.int)) S1 _
      refine wp_mono ih ?_
      rintro ys S2 ⟨⟨ms, hm, rfl⟩, hI2⟩
      exact ⟨⟨ms, hm.cons n, rfl⟩, hI2⟩
end Dz

/-! Lim2: the law's own ways to the least period, the least first, the rests; the same set told otherwise. -/
namespace Lim
theorem find_ups {P : Int → Bool} : ∀ (n : Nat) (lo : Int), (match (Lim.upto lo n).find? P with
    | some x => (lo ≤ x ∧ x < lo + n) ∧ P x = true ∧ ∀ y, lo ≤ y → y < x → P y = false
    | none => ∀ y, lo ≤ y → y < lo + n → P y = false) := by
  intro n
  induction n with
  | zero =>
    intro lo
    show ∀ y, _
    intro y h1 h2
    omega
  | succ n ih =>
    intro lo
    have e : Lim.upto lo (n + 1) = lo :: Lim.upto (lo + 1) n := by
      unfold Lim.upto
      rw [List.range_succ_eq_map, List.map_cons, List.map_map]
      congr 1
      · omega
      · apply List.map_congr_left
        intro a _
        show lo + ((a + 1 : Nat) : Int) = _
        omega
    rw [e, List.find?_cons]
    cases hp : P lo with
    | true =>
      simp only []
      exact ⟨by omega, hp, fun y a b => by omega⟩
    | false =>
      simp only []
      have := ih (lo + 1)
      split
      · rename_i x q
        rw [q] at this
        obtain ⟨a, b, c⟩ := this
        refine ⟨by omega, b, fun y h1 h2 => ?_⟩
        by_cases hy : y = lo
        · rw [hy]; exact hp
        · exact c y (by omega) h2
      · rename_i q
        rw [q] at this
        intro y h1 h2
        by_cases hy : y = lo
        · rw [hy]; exact hp
        · exact this y (by omega) (by omega)
/-- the law's test of a period -/
def lawPer (p : Pt) (q : Int) : Bool := ((Lim.upto p.fst (2 * p.per).toNat).filter fun n => has p n != has p (n + q)).isEmpty
theorem lawPer_iff {p : Pt} (k : Ok p) {q : Int} (hq : 1 ≤ q) : lawPer p q = true ↔ PerOk p.rst p.per q := by
  have p0 := k.p0
  unfold lawPer
  rw [List.isEmpty_iff, List.filter_eq_nil_iff]
  constructor
  · intro h n
    have a := Int.emod_nonneg (n - p.fst) (show p.per ≠ 0 by omega)
    have b := Int.emod_lt_of_pos (n - p.fst) (show 0 < p.per by omega)
    have := h (p.fst + (n - p.fst) % p.per) (mem_ints.mpr ⟨by omega, by omega⟩)
    unfold has at this
    rw [if_neg (by omega), if_neg (by omega)] at this
    have e1 : (p.fst + (n - p.fst) % p.per) % p.per = n % p.per := by
      rw [Int.add_emod_emod, show p.fst + (n - p.fst) = n by omega]
    have e2 : (p.fst + (n - p.fst) % p.per + q) % p.per = (n + q) % p.per := by
      rw [Int.add_emod, e1, ← Int.add_emod]
    rw [e1, e2] at this
    simp only [bne_iff_ne, ne_eq, Decidable.not_not, decide_eq_decide] at this
    exact this
  · intro h n hn
    rw [mem_ints] at hn
    unfold has
    rw [if_neg (by omega), if_neg (by omega)]
    simp only [bne_iff_ne, ne_eq, Decidable.not_not, decide_eq_decide]
    exact h n
theorem find_lawPer {p : Pt} (k : Ok p) : (Lim.upto 1 p.per.toNat).find? (lawPer p) = some (canon p).per := by
  have p0 := k.p0
  obtain ⟨_, q1, q2, qd, qp, ql⟩ := lper_spec (rst := p.rst) p0
  have h := find_ups (P := lawPer p) p.per.toNat 1
  cases q : (Lim.upto 1 p.per.toNat).find? (lawPer p) with
  | none =>
    rw [q] at h
    have := h (lper p.rst p.per) q1 (by omega)
    rw [(lawPer_iff k q1).mpr qp] at this
    cases this
  | some x =>
    rw [q] at h
    obtain ⟨⟨a, b⟩, c, d⟩ := h
    have e1 := ql x a ((lawPer_iff k a).mp c)
    have e2 : x = lper p.rst p.per := by
      rcases Int.lt_or_le (lper p.rst p.per) x with z | z
      · have := d _ q1 z
        rw [(lawPer_iff k q1).mpr qp] at this
        cases this
      · omega
    rw [e2]
    rfl
/-- the law's way down to the first -/
def stepF (p : Pt) (q found n : Int) : Int := if found = n + 1 ∧ has p n = has p (n + q) then n else found
theorem fold_first {p : Pt} (k : Ok p) : (downs (p.fst - 1) p.fst.toNat).foldl (fun f n => stepF p (canon p).per f n) p.fst = (canon p).fst := by
  have c0 := canon_first k
  have key : ∀ (m : Nat), (m : Int) ≤ p.fst → (downs (p.fst - 1) m).foldl (fun f n => stepF p (canon p).per f n) p.fst = max (p.fst - m) (canon p).fst := by
    intro m
    induction m with
    | zero =>
      intro _
      show p.fst = _
      rw [show p.fst - ((0 : Nat) : Int) = p.fst by omega]
      omega
    | succ m ih =>
      intro hm
      have e : downs (p.fst - 1) (m + 1) = downs (p.fst - 1) m ++ [p.fst - 1 - (m : Int)] := by
        unfold downs
        rw [List.range_succ, List.map_append]
        rfl
      rw [e, List.foldl_append, ih (by omega), List.foldl_cons, List.foldl_nil]
      unfold stepF
      by_cases hc : (canon p).fst ≤ p.fst - 1 - m
      · rw [if_pos ⟨by omega, (has_round k hc).symm⟩]
        omega
      · rw [if_neg ?_]
        · omega
        · rintro ⟨h1, h2⟩
          have : (canon p).fst ≤ p.fst - 1 - m := first_least k (by omega) fun n hn => by
            by_cases hz : n = p.fst - 1 - m
            · rw [hz]; exact h2
            · exact (has_round k (by omega)).symm
          omega
  have := key p.fst.toNat (by omega)
  rw [this]
  omega
theorem srt_asc {l : List Int} (h : l.Nodup) : (Dz.srt l).Pairwise (· < ·) := by
  have h1 := Dz.srt_pw l
  have h2 : (Dz.srt l).Nodup := (Dz.srt_perm l).nodup_iff.mpr h
  exact (h1.and h2).imp fun ⟨a, b⟩ => by omega
theorem mem_srt {l : List Int} {x : Int} : x ∈ Dz.srt l ↔ x ∈ l := (Dz.srt_perm l).mem_iff
/-- rests of numbers that lie close together differ -/
theorem rest_inj {a b q lo : Int} (hq : 1 ≤ q) (ha : lo ≤ a ∧ a < lo + q) (hb : lo ≤ b ∧ b < lo + q) (h : a % q = b % q) : a = b := by
  have e := Int.emod_emod_of_dvd (a - b) (Int.dvd_refl q)
  have h0 : (a - b) % q = 0 := by rw [Int.sub_emod, h, Int.sub_self, Int.zero_emod]
  obtain ⟨c, hc⟩ := Int.dvd_of_emod_eq_zero h0
  have : c = 0 := by
    rcases Int.lt_trichotomy c 0 with z | z | z
    · have : q * c ≤ q * (-1) := Int.mul_le_mul_of_nonneg_left (by omega) (by omega)
      omega
    · exact z
    · have : q * 1 ≤ q * c := Int.mul_le_mul_of_nonneg_left (by omega) (by omega)
      omega
  rw [this, Int.mul_zero] at hc
  omega
theorem rests_nodup {q lo : Int} (hq : 1 ≤ q) {P : Int → Bool} : (((Lim.upto lo q.toNat).filter P).map fun n => n % q).Nodup := by
  unfold List.Nodup
  rw [List.pairwise_map]
  have h : ((Lim.upto lo q.toNat).filter P).Pairwise (· < ·) := (ints_asc lo q.toNat).filter _
  refine h.imp_of_mem fun {a b} ha hb hab e => ?_
  have ha := mem_ints.mp (List.mem_filter.mp ha).1
  have hb := mem_ints.mp (List.mem_filter.mp hb).1
  have := rest_inj hq (lo := lo) ⟨ha.1, by omega⟩ ⟨hb.1, by omega⟩ e
  omega
/-- the law's rests -/
theorem law_rests {p : Pt} (k : Ok p) : Dz.srt (((Lim.upto (canon p).fst (canon p).per.toNat).filter fun n => has p n).map fun n => n % (canon p).per) = (canon p).rst := by
  have q1 := (canon_per k).1
  refine asc_ext (srt_asc (rests_nodup q1)) (canon_ok k).ra fun x => ?_
  rw [mem_srt, List.mem_map]
  constructor
  · rintro ⟨n, hn, rfl⟩
    obtain ⟨h1, h2⟩ := List.mem_filter.mp hn
    rw [mem_ints] at h1
    rw [has_far k h1.1] at h2
    exact of_decide_eq_true h2
  · intro hx
    have hb := (canon_ok k).rb x hx
    have a := Int.emod_nonneg (x - (canon p).fst) (show (canon p).per ≠ 0 by omega)
    have b := Int.emod_lt_of_pos (x - (canon p).fst) (show 0 < (canon p).per by omega)
    refine ⟨(canon p).fst + (x - (canon p).fst) % (canon p).per, List.mem_filter.mpr ⟨mem_ints.mpr ⟨by omega, by omega⟩, ((mem_rst k).mp hx).2.2⟩, ?_⟩
    rw [Int.add_emod_emod, show (canon p).fst + (x - (canon p).fst) = x by omega]
    exact Int.emod_eq_of_lt hb.1 hb.2
theorem law_few {p : Pt} (k : Ok p) : (Lim.upto 0 (canon p).fst.toNat).filter (fun n => has p n) = (canon p).few := by
  refine asc_ext ((ints_asc _ _).filter _) (canon_ok k).fa fun x => ?_
  have := (canon_first k).1
  rw [List.mem_filter, mem_ints, mem_few k]
  constructor
  · rintro ⟨a, b⟩; exact ⟨a.1, by omega, b⟩
  · rintro ⟨a, b, c⟩; exact ⟨⟨a, by omega⟩, c⟩
/-- the same set, told otherwise -/
def other (p : Pt) (a b : Int) : Pt := ⟨(Lim.upto 0 (p.fst + a).toNat).filter fun n => has p n, p.fst + a, p.per * b, Dz.srt (((Lim.upto (p.fst + a) (p.per * b).toNat).filter fun n => has p n).map fun n => n % (p.per * b))⟩
theorem other_ok {p : Pt} (k : Ok p) {a b : Int} (ha : 0 ≤ a) (hb : 1 ≤ b) (h1 : p.fst + a ≤ 2000) (h2 : p.per * b ≤ 2000) : Ok (other p a b) := by
  have f0 := k.f0
  have p0 := k.p0
  have pb : 1 ≤ p.per * b := by
    have : (1 : Int) * 1 ≤ p.per * b := Int.mul_le_mul p0 hb (by omega) (by omega)
    omega
  refine ⟨by show 0 ≤ p.fst + a; omega, h1, pb, h2, (ints_asc _ _).filter _, fun x hx => ?_, srt_asc (rests_nodup pb), fun x hx => ?_⟩
  · have := mem_ints.mp (List.mem_filter.mp hx).1
    show 0 ≤ x ∧ x < p.fst + a
    omega
  · have hx : x ∈ Dz.srt _ := hx
    rw [mem_srt, List.mem_map] at hx
    obtain ⟨n, _, rfl⟩ := hx
    exact ⟨Int.emod_nonneg _ (by omega), Int.emod_lt_of_pos _ (show (0 : Int) < p.per * b by omega)⟩
theorem other_has {p : Pt} (k : Ok p) {a b : Int} (ha : 0 ≤ a) (hb : 1 ≤ b) {n : Int} (hn : 0 ≤ n) : has (other p a b) n = has p n := by
  have f0 := k.f0
  have p0 := k.p0
  have pb : 1 ≤ p.per * b := by
    have : (1 : Int) * 1 ≤ p.per * b := Int.mul_le_mul p0 hb (by omega) (by omega)
    omega
  rw [Bool.eq_iff_iff]
  by_cases h : n < p.fst + a
  · have e : has (other p a b) n = decide (n ∈ (other p a b).few) := by unfold has; exact if_pos h
    rw [e, decide_eq_true_eq]
    show n ∈ (Lim.upto 0 (p.fst + a).toNat).filter (fun n => has p n) ↔ _
    rw [List.mem_filter, mem_ints]
    constructor
    · exact fun z => z.2
    · exact fun z => ⟨⟨hn, by omega⟩, z⟩
  · have e : has (other p a b) n = decide (n % (p.per * b) ∈ (other p a b).rst) := by unfold has; exact if_neg h
    rw [e, decide_eq_true_eq]
    show n % (p.per * b) ∈ Dz.srt _ ↔ _
    rw [mem_srt, List.mem_map]
    -- numbers with one rest of the greater period
    have same : ∀ m, p.fst + a ≤ m → m % (p.per * b) = n % (p.per * b) → has p m = has p n := fun m hm e => by
      unfold has
      rw [if_neg (by omega), if_neg (by omega)]
      have d : p.per ∣ p.per * b := ⟨b, rfl⟩
      rw [← Int.emod_emod_of_dvd m d, e, Int.emod_emod_of_dvd n d]
    constructor
    · rintro ⟨m, hm, e⟩
      obtain ⟨h1, h2⟩ := List.mem_filter.mp hm
      rw [mem_ints] at h1
      rw [← same m h1.1 e]
      exact h2
    · intro hp
      have c := Int.emod_nonneg (n - (p.fst + a)) (show p.per * b ≠ 0 by omega)
      have d := Int.emod_lt_of_pos (n - (p.fst + a)) (show 0 < p.per * b by omega)
      have e : (p.fst + a + (n - (p.fst + a)) % (p.per * b)) % (p.per * b) = n % (p.per * b) := by
        rw [Int.add_emod_emod, show p.fst + a + (n - (p.fst + a)) = n by omega]
      refine ⟨p.fst + a + (n - (p.fst + a)) % (p.per * b), List.mem_filter.mpr ⟨mem_ints.mpr ⟨by omega, by omega⟩, ?_⟩, e⟩
      rw [same _ (by omega) e]
      exact hp
theorem other_canon {p : Pt} (k : Ok p) {a b : Int} (ha : 0 ≤ a) (hb : 1 ≤ b) (h1 : p.fst + a ≤ 2000) (h2 : p.per * b ≤ 2000) : canon (other p a b) = canon p := canon_uniq (other_ok k ha hb h1 h2) k fun n hn => other_has k ha hb hn
/-- small parts, as they are drawn -/
structure Small (p : Pt) : Prop where
  ok : Ok p
  f9 : p.fst ≤ 9
  d60 : (60 : Int) % p.per = 0
theorem Small.far {p : Pt} (s : Small p) {n : Int} (h : 9 ≤ n) : has p n = has p (9 + (n - 9) % 60) := by
  have f := s.f9
  have a := Int.emod_nonneg (n - 9) (show (60 : Int) ≠ 0 by omega)
  unfold has
  rw [if_neg (by omega), if_neg (by omega)]
  have d : p.per ∣ 60 := Int.dvd_of_emod_eq_zero s.d60
  have e : (9 + (n - 9) % 60) % 60 = n % 60 := by
    rw [Int.add_emod_emod, show 9 + (n - 9) = n by omega]
  rw [← Int.emod_emod_of_dvd n d, ← e, Int.emod_emod_of_dvd _ d]
theorem below_iff {p p' : Pt} (s : Small p) (s' : Small p') : (Lim.upto 0 99).filter (fun n => has p n) = (Lim.upto 0 99).filter (fun n => has p' n) ↔ canon p = canon p' := by
  rw [canon_eq_iff s.ok s'.ok]
  constructor
  · intro h
    have near : ∀ n, 0 ≤ n → n < 99 → has p n = has p' n := fun n h0 h1 => by
      rw [Bool.eq_iff_iff]
      have hm : n ∈ Lim.upto 0 99 := mem_ints.mpr ⟨h0, by omega⟩
      constructor
      · intro z
        have : n ∈ (Lim.upto 0 99).filter (fun n => has p' n) := by rw [← h]; exact List.mem_filter.mpr ⟨hm, z⟩
        exact (List.mem_filter.mp this).2
      · intro z
        have : n ∈ (Lim.upto 0 99).filter (fun n => has p n) := by rw [h]; exact List.mem_filter.mpr ⟨hm, z⟩
        exact (List.mem_filter.mp this).2
    intro n hn
    by_cases hf : n < 99
    · exact near n hn hf
    · have a := Int.emod_nonneg (n - 9) (show (60 : Int) ≠ 0 by omega)
      have b := Int.emod_lt_of_pos (n - 9) (show (0 : Int) < 60 by omega)
      rw [s.far (by omega), s'.far (by omega)]
      exact near _ (by omega) (by omega)
  · intro h
    apply List.filter_congr
    intro n hn
    exact h n (mem_ints.mp hn).1
theorem some_iff {p : Pt} (s : Small p) (h12 : p.per ≤ 60) : 0 < (canon p).few.length + (canon p).rst.length ↔ (Lim.upto 0 99).filter (fun n => has p n) ≠ [] := by
  have k := s.ok
  have c0 := canon_first k
  have q0 := canon_per k
  have f9 := s.f9
  constructor
  · intro h e
    rw [List.filter_eq_nil_iff] at e
    by_cases hf : (canon p).few = []
    · cases hr : (canon p).rst with
      | nil => rw [hf, hr] at h; simp at h
      | cons r l =>
        have hm := (mem_rst k).mp (show r ∈ (canon p).rst by rw [hr]; exact List.mem_cons_self)
        have a := Int.emod_nonneg (r - (canon p).fst) (show (canon p).per ≠ 0 by omega)
        have b := Int.emod_lt_of_pos (r - (canon p).fst) (show 0 < (canon p).per by omega)
        exact e _ (mem_ints.mpr ⟨by omega, by omega⟩) hm.2.2
    · obtain ⟨x, hx⟩ := List.exists_mem_of_ne_nil _ hf
      have hm := (mem_few k).mp hx
      exact e x (mem_ints.mpr ⟨hm.1, by omega⟩) hm.2.2
  · intro h
    obtain ⟨x, hx⟩ := List.exists_mem_of_ne_nil _ h
    obtain ⟨h1, h2⟩ := List.mem_filter.mp hx
    rw [mem_ints] at h1
    by_cases hf : x < (canon p).fst
    · have := List.length_pos_of_mem ((mem_few k).mpr ⟨h1.1, hf, h2⟩)
      omega
    · rw [has_far k (by omega)] at h2
      have := List.length_pos_of_mem (of_decide_eq_true h2)
      omega
end Lim

/-! Dz21: steps of operators by own methods; loops with an invariant of the slots. -/
namespace Dz
open PySem PySem.Spec PyProof.Rows L2
section
variable {c : Str} {tys : List Ty} {φ : List Vl → M Vl} {g : Vl → Vl → M Vl} {b : Vl} {S : Sto} {Q : Vl → Sto → Prop}
theorem dunNe_str {x : Str} : dunNe c tys φ g (.d (.str x)) b = g (.d (.str x)) b := rfl
theorem dunNe_bl {x : Bool} : dunNe c tys φ g (.d (.bl x)) b = g (.d (.bl x)) b := rfl
theorem dunNe_int {x : Int} : dunNe c tys φ g (.d (.int x)) b = g (.d (.int x)) b := rfl
theorem dunNe_lst {x : List D} : dunNe c tys φ g (.d (.lst x)) b = g (.d (.lst x)) b := rfl
theorem dunNe_tup {x : List D} : dunNe c tys φ g (.d (.tup x)) b = g (.d (.tup x)) b := rfl
theorem dunNe_non : dunNe c tys φ g (.d .non) b = g (.d .non) b := rfl
theorem dunEq_str {x : Str} : dunEq c tys φ g (.d (.str x)) b = g (.d (.str x)) b := rfl
theorem dunEq_bl {x : Bool} : dunEq c tys φ g (.d (.bl x)) b = g (.d (.bl x)) b := rfl
theorem dunEq_int {x : Int} : dunEq c tys φ g (.d (.int x)) b = g (.d (.int x)) b := rfl
theorem dunEq_lst {x : List D} : dunEq c tys φ g (.d (.lst x)) b = g (.d (.lst x)) b := rfl
theorem dunEq_tup {x : List D} : dunEq c tys φ g (.d (.tup x)) b = g (.d (.tup x)) b := rfl
theorem dunEq_non : dunEq c tys φ g (.d .non) b = g (.d .non) b := rfl
theorem tyM_d {x : D} {t : Ty} (h : tyD x = some t) : tyM (.d x) = pur t := by
  funext S
  unfold tyM
  simp only []
  rw [h]
  rfl
theorem dunEq_ins {fs : List (Str × D)} {y : D} {t : Ty} (h : tyD y = some t) (ht : t ∈ tys) : dunEq c tys φ g (.d (.ins c fs)) (.d y) = noE (φ [.d (.ins c fs), .d y]) := by
  show (if c = c then bnd (tyM (.d y)) (fun t => if t ∈ tys then noE (φ [.d (.ins c fs), .d y]) else stuck) else stuck) = _
  rw [if_pos rfl, tyM_d h, bnd_ret, if_pos ht]
theorem dunNe_ins {fs : List (Str × D)} {y : D} {t : Ty} (h : tyD y = some t) (ht : t ∈ tys) : dunNe c tys φ g (.d (.ins c fs)) (.d y) = bnd (noE (φ [.d (.ins c fs), .d y])) notB := by
  show (if c = c then bnd (tyM (.d y)) (fun t => if t ∈ tys then bnd (noE (φ [.d (.ins c fs), .d y])) notB else stuck) else stuck) = _
  rw [if_pos rfl, tyM_d h, bnd_ret, if_pos ht]
theorem dunIn_ins {a : Vl} {fs : List (Str × D)} : dunIn c φ g a (.d (.ins c fs)) = bnd (noE (φ [.d (.ins c fs), a])) isB := by
  show (if c = c then _ else _) = _
  rw [if_pos rfl]
theorem tBoolX_ins {fs : List (Str × D)} {h : List Vl → M Vl} : tBoolX c φ h [.d (.ins c fs)] = bnd (noE (φ [.d (.ins c fs)])) isB := by
  show (if c = c then _ else _) = _
  rw [if_pos rfl]
theorem w_notB {k : Bool} : wp (notB (.d (.bl k))) S Q ↔ Q (.d (.bl (!k))) S := wp_pur
theorem w_isB {k : Bool} : wp (isB (.d (.bl k))) S Q ↔ Q (.d (.bl k)) S := wp_pur
end
/-- a loop over ints that leaves at the first one with P; I: what the slots keep -/
theorem forL_findI {i : Nat} {s : Env → M Out} {P : Int → Bool} {r : Int → Vl} {I : Env → Prop} : ∀ (l : List Int) (ρ : Env), I ρ → (∀ n ∈ l, ∀ ρ', I ρ' → (P n = true → s (ρ'.set i (some (.d (.int n)))) = pur (.rt (r n))) ∧ (P n = false → ∃ ρ2, s (ρ'.set i (some (.d (.int n)))) = pur (.nx ρ2) ∧ I ρ2)) →
    ∃ ρ1, I ρ1 ∧ forL (.one i) s (l.map D.int) ρ = match l.find? P with
      | some n => pur (.rt (r n))
      | none => pur (.nx ρ1)
  | [], ρ, hI, _ => ⟨ρ, hI, rfl⟩
  | n :: l, ρ, hI, h => by
    obtain ⟨h1, h2⟩ := h n List.mem_cons_self ρ hI
    rw [List.map_cons]
    unfold forL
    cases hp : P n with
    | true =>
      refine ⟨ρ, hI, ?_⟩
      show bnd (s (ρ.set i (some (.d (.int n))))) _ = _
      rw [h1 hp, bnd_ret, List.find?_cons, hp]
    | false =>
      obtain ⟨ρ2, e2, hI2⟩ := h2 hp
      obtain ⟨ρ1, hI1, e1⟩ := forL_findI l ρ2 hI2 fun x hx => h x (List.mem_cons_of_mem _ hx)
      refine ⟨ρ1, hI1, ?_⟩
      show bnd (s (ρ.set i (some (.d (.int n))))) _ = _
      rw [e2, bnd_ret, List.find?_cons, hp]
      exact e1
/-- a loop over ints that reckons on: env a the slots where a is reckoned so far -/
theorem forL_fold {α : Type} {i : Nat} {s : Env → M Out} {g : α → Int → α} {I : α → Env → Prop} : ∀ (l : List Int) (a : α) (ρ : Env), I a ρ → (∀ n ∈ l, ∀ a ρ', I a ρ' → ∃ ρ2, s (ρ'.set i (some (.d (.int n)))) = pur (.nx ρ2) ∧ I (g a n) ρ2) →
    ∃ ρ1, I (l.foldl g a) ρ1 ∧ forL (.one i) s (l.map D.int) ρ = pur (.nx ρ1)
  | [], a, ρ, hI, _ => ⟨ρ, hI, rfl⟩
  | n :: l, a, ρ, hI, h => by
    obtain ⟨ρ2, e2, hI2⟩ := h n List.mem_cons_self a ρ hI
    obtain ⟨ρ1, hI1, e1⟩ := forL_fold l (g a n) ρ2 hI2 fun x hx => h x (List.mem_cons_of_mem _ hx)
    refine ⟨ρ1, hI1, ?_⟩
    rw [List.map_cons]
    unfold forL
    show bnd (s (ρ.set i (some (.d (.int n))))) _ = _
    rw [e2, bnd_ret]
    exact e1
end Dz

/-! Dz22: class methods; a class held by a local name, called. -/
namespace Dz
open PySem PySem.Spec PyProof.Rows L2
section
variable {X : Cx} {CX : CXT} {k n : Nat} {f C p g : Addr} {sp : Sp} {E : XK} {pins : List (Addr × Obj)} {σ : L2.St} {H : Hp} {s : Shared} {Q : VK} {us : List Value} {vs : List V}
/-- a bound class method, called: the class stands first -/
theorem run_cmg {q : Addr} (F : FnG X.prog X.w X.K X.mg X.base CX k (n + 1) g sp) (hr : Rm k X.A) (hx : Passes CX X E) (I : Inv X ((q, PySem.W.methodObj (.ref g) (.ref C)) :: pins) σ H s) (r : Vals vs us) (hl : vs.length = n) (h : sp (.ref C :: vs) H Q E) :
    wpAny (model X.prog X.w) X.A (call (.ref q) us) (EP X pins σ Q) X.xe s :=
  thn (Q := EP X ((q, PySem.W.methodObj (.ref g) (.ref C)) :: pins) σ Q) (wpAny_call (PySem.W.method_call (ClX.pin_at I) (codeAny_mono (F X.A X.stack s H (.ref C :: us) (.ref C :: vs) Q E hr I.env0 (.cons rfl r) (congrArg (· + 1) hl) h) fun o s2 z => by
    obtain ⟨u, rfl, y⟩ | ⟨e, rfl, y⟩ := seen I (fun e s' y => hx _ σ H s e s' I y) z <;> exact y))) fun _ _ y => ClX.unpinE y
end
section
variable {X : Cx} {CX : CXT} {k n : Nat} {C p g : Addr} {sp : Sp} {E : XK} {mc : Value} {m : Str} {ps pos apos : Pos} {e o : Expr} {es : List Expr} {ta : TE} {t : TA} {pl : Sem Bool}
theorem pg_cmeth (he : PE X o ta) (r : ClX.CRead X.K C mc) (c : ClX.CMet X.K C mc m p g) (F : FnG X.prog X.w X.K X.mg X.base CX k (n + 1) g sp) (hr : Rm k X.A) (hx : Passes CX X E) (ha : PA X (e :: es) t)
    (hst : Args1 X e es := by rfl) (hpl : NoStar X es pos := by rfl) (ht : MethSh X o m apos (e :: es) pos pl := by rfl) :
    PE X (.Call (.Attribute o m apos) (e :: es) [] pos) (fun σ H Q => ta σ H fun x H1 => x = .ref C ∧ t σ H1 fun vs H2 => vs.length = n ∧ sp (.ref C :: vs) H2 Q E) := by
  refine pe_by fun I h => PySem.W.methodCall_KW (pl := pl) (thn (he.run _ _ _ _ _ I h) fun u s1 ⟨x, H1, J, ru, ex, q⟩ => ?_) ht
  rw [ex] at ru
  cases ru
  refine ClX.getmethcm_ok J r c fun s2 J2 => ClX.callwith_cm J2 (ClX.base_none J (Nat.le_refl _)) c.fi (thn (ha.run _ _ _ _ _ _ J2 q) fun us s3 ⟨vs, H2, J3, rv, hl, q2⟩ => ?_) hst hpl
  exact ⟨⟨ClX.pin_at J3, J3.kIn⟩, run_cmg F hr hx J3 rv hl q2⟩
theorem pg_cmeth0 (he : PE X o ta) (r : ClX.CRead X.K C mc) (c : ClX.CMet X.K C mc m p g) (F : FnG X.prog X.w X.K X.mg X.base CX k 1 g sp) (hr : Rm k X.A) (hx : Passes CX X E) (ht : MethSh X o m apos [] pos pl := by rfl) :
    PE X (.Call (.Attribute o m apos) [] [] pos) (fun σ H Q => ta σ H fun x H1 => x = .ref C ∧ sp [.ref C] H1 Q E) := by
  refine pe_by fun I h => PySem.W.methodCall_KW (pl := pl) (thn (he.run _ _ _ _ _ I h) fun u s1 ⟨x, H1, J, ru, ex, q⟩ => ?_) ht
  rw [ex] at ru
  cases ru
  exact ClX.getmethcm_ok J r c fun s2 J2 => PySem.W.callWith_M0 (first := []) ⟨ClX.pin_at J2, J2.kIn⟩ c.fi (run_cmg (n := 0) (us := []) F hr hx J2 .nil rfl q)
/-- a local name that holds a class -/
theorem pg_makeL {f : Addr} {i : Nat} {x : Str} {pp : Pos} (M : Mk X.K C f) (F : FnG X.prog X.w X.K X.mg X.base CX k (n + 1) f sp) (hr : Rm (k + 1) X.A) (hN : X.N[i]? = some x) (hv : Vis X.env.scope x) (hx : Passes CX X E) (ha : PA X (e :: es) t) (hdb : (x == ("__debug__" : Str)) = false := by decide)
    (hcd : (x == ("__classdict__" : Str)) = false := by decide) (he : Args1 X e es := by rfl) (hpl : NoStar X es pos := by rfl) :
    PE X (.Call (.Name x pp) (e :: es) [] pos) (fun σ H Q => σ[i]? = some (some (.ref C)) ∧ tMakeG C n sp E t σ H Q) := by
  refine pe_by fun {pins s σ H Q} I ⟨hs, ht⟩ => wpAny_Call_Name_kw (thn ((pe_var (pos := pp) hN hv hdb hcd).run _ _ σ H (fun v H1 => v = .ref C ∧ H1 = H) I ⟨.ref C, hs, rfl, rfl⟩) fun u s1 ⟨v, H1, J, ru, ev, eH⟩ => ?_)
  rw [ev] at ru
  rw [eH] at J
  cases ru
  exact PySem.W.callWith_K (h₀ := X.base) I.ok.mod.kin M.kp (thn (ha.run _ _ _ _ _ _ J ht) fun us s2 ⟨vs, H2, J2, r, hl, q⟩ => ⟨J2.kIn, run_makeG M F hr hx J2 r hl q⟩) he hpl
end
/-! ### by data -/
def isC (c : Str) (x : Vl) : M Unit := match x with
  | .d (.cls c') => if c' = c then pur () else stuck
  | _ => stuck
def eCm (c : Str) (φ : List Vl → M Vl) (g : Env → M Vl) (fs : Env → M (List Vl)) : Env → M Vl := fun ρ => bnd (g ρ) fun x => bnd (isC c x) fun _ => bnd (fs ρ) fun xs => φ (.d (.cls c) :: xs)
theorem res_isC {α β : Type} {K : Frag} {A : Hp → List Addr → α → β → Prop} {F G : Hp} {m : List Addr} {S : Sto} {c : Str} {x : Vl} {v : V} {k : Unit → M α} {Q : β → Hp → Prop} (r : RepV K F m x v) (h : res K Er A F m G (bnd (isC c x) k S) Q) :
    v = .ref (He.ga K c) ∧ res K Er A F m G (k () S) Q := by
  unfold isC at h
  split at h
  · split at h
    · rename_i e
      subst e
      cases r
      exact ⟨rfl, h⟩
    · exact h.elim
  · exact h.elim
section
variable {X : Cx} {k n : Nat} {p g : Addr} {mc : Value} {c m : Str} {pos apos : Pos} {e o : Expr} {es : List Expr} {go : Env → M Vl} {fs : Env → M (List Vl)} {pl : Sem Bool} {φ : List Vl → M Vl}
theorem me_cmeth (ho : ME X Er o go) (r : ClX.CRead X.K (He.ga X.K c) mc) (cm : ClX.CMet X.K (He.ga X.K c) mc m p g) (G : FnG X.prog X.w X.K X.mg X.base (CX X.prog X.w) k (n + 1) g (spM X.K (n + 1) φ)) (eo : ErOk X Er E) (hr : Rm k X.A) (ha : MA X Er (e :: es) fs) (hl : Ln fs n)
    (hst : Args1 X e es := by rfl) (hpl : NoStar X es pos := by rfl)
    (ht : MethSh X o m apos (e :: es) pos pl := by rfl) :
    ME X Er (.Call (.Attribute o m apos) (e :: es) [] pos) (eCm c φ go fs) := PE.imp (pg_cmeth (E := E) (pl := pl) ho r cm G hr eo.pass ha hst hpl ht) fun σ H Q ⟨F, mm, Gh, S, ρ, w, r, z⟩ => by
  refine rd_mono (rd_bnd (A := rV X.K) w r z) fun v H1 ⟨F1, m1, S1, a1, e1, w1, r1, ra, q1⟩ => ?_
  obtain ⟨rfl, q1⟩ := res_isC ra q1
  refine ⟨rfl, F1, m1, Gh, S1, ρ, w1, r1, ?_⟩
  unfold bnd at q1
  cases q : fs ρ S1 with
  | err => rw [q] at q1; exact q1
  | no => rw [q] at q1; exact q1
  | ok xs S2 =>
    rw [q] at q1
    intro F2 m2 H2 us e2 w2 rus
    have l : us.length = n := by rw [← rus.length]; exact hl.ln ρ S1 xs S2 q
    exact ⟨l, by rw [List.length_cons, l], F2, m2, Gh, S2, .d (.cls c) :: xs, w2, .cons (x := .d (.cls c)) (Rep.cls c) rus, res_imp eo.imp (res_ext e2 q1)⟩
theorem me_cmeth0 (ho : ME X Er o go) (r : ClX.CRead X.K (He.ga X.K c) mc) (cm : ClX.CMet X.K (He.ga X.K c) mc m p g) (G : FnG X.prog X.w X.K X.mg X.base (CX X.prog X.w) k 1 g (spM X.K 1 φ)) (eo : ErOk X Er E) (hr : Rm k X.A)
    (ht : MethSh X o m apos [] pos pl := by rfl) :
    ME X Er (.Call (.Attribute o m apos) [] [] pos) (eCm c φ go aNil) := PE.imp (pg_cmeth0 (E := E) (pl := pl) ho r cm G hr eo.pass ht) fun σ H Q ⟨F, mm, Gh, S, ρ, w, r, z⟩ => by
  refine rd_mono (rd_bnd (A := rV X.K) w r z) fun v H1 ⟨F1, m1, S1, a1, e1, w1, r1, ra, q1⟩ => ?_
  obtain ⟨rfl, q1⟩ := res_isC ra q1
  exact ⟨rfl, rfl, F1, m1, Gh, S1, [.d (.cls c)], w1, .cons (x := .d (.cls c)) (Rep.cls c) .nil, res_imp eo.imp q1⟩
def eMkL (i : Nat) (c : Str) (φ : List Vl → M Vl) (fs : Env → M (List Vl)) : Env → M Vl := fun ρ => bnd (eVar i ρ) fun x => bnd (isC c x) fun _ => bnd (fs ρ) (mkI c φ)
theorem me_makeL {f : Addr} {i : Nat} {x : Str} {pp : Pos} (M : Mk X.K (He.ga X.K c) f) (G : FnG X.prog X.w X.K X.mg X.base (CX X.prog X.w) k (n + 1) f (spM X.K (n + 1) φ)) (eo : ErOk X Er E) (hr : Rm (k + 1) X.A) (hN : X.N[i]? = some x) (hv : Vis X.env.scope x) (ha : MA X Er (e :: es) fs) (hl : Ln fs n)
    (hdb : (x == ("__debug__" : Str)) = false := by decide) (hcd : (x == ("__classdict__" : Str)) = false := by decide)
    (he : Args1 X e es := by rfl) (hpl : NoStar X es pos := by rfl) :
    ME X Er (.Call (.Name x pp) (e :: es) [] pos) (eMkL i c φ fs) := PE.imp (pg_makeL (E := E) M G hr hN hv eo.pass ha hdb hcd he hpl) fun σ H Q ⟨F, mm, Gh, S, ρ, w, r, z⟩ => by
  unfold eMkL bnd eVar at z
  cases q : ρ[i]? with
  | none => rw [q] at z; exact z.elim
  | some ox =>
    rw [q] at z
    cases ox with
    | none => exact z.elim
    | some y =>
      simp only [] at z
      obtain ⟨v, hv, rv⟩ := r.at_ i y q
      obtain ⟨rfl, z⟩ := res_isC (k := fun _ => bnd (fs ρ) (mkI c φ)) rv z
      exact ⟨hv, tMake_of eo.imp hl ⟨F, mm, Gh, S, ρ, w, r, z⟩⟩
end
section
variable {c : Str} {φ : List Vl → M Vl} {f : Env → M Vl} {fs : Env → M (List Vl)} {ρ : Env} {S : Sto}
theorem w_cm {Q : Vl → Sto → Prop} : wp (eCm c φ f fs ρ) S Q ↔ wp (f ρ) S fun x S => wp (isC c x) S fun _ S => wp (fs ρ) S fun xs S => wp (φ (.d (.cls c) :: xs)) S Q := by
  unfold eCm
  simp only [wp_bnd]
theorem w_mkL {i : Nat} {Q : Vl → Sto → Prop} : wp (eMkL i c φ fs ρ) S Q ↔ wp (eVar i ρ) S fun x S => wp (isC c x) S fun _ S => wp (fs ρ) S fun xs S => wp (mkI c φ xs) S Q := by
  unfold eMkL
  simp only [wp_bnd]
theorem w_isC {Q : Unit → Sto → Prop} : wp (isC c (.d (.cls c))) S Q ↔ Q () S := by
  have e : isC c (.d (.cls c)) = pur () := by
    show (if c = c then pur () else stuck) = _
    rw [if_pos rfl]
  rw [e]
  exact wp_pur
end
end Dz

/-! Dz23: while, by a number of turns. -/
namespace Dz
open PySem PySem.Spec PyProof.Rows L2
def whL (p : Env → M Bool) (s : Env → M Out) : Nat → Env → M Out
  | 0, _ => stuck
  | k + 1, ρ => bnd (p ρ) fun b => match b with
    | false => pur (.nx ρ)
    | true => bnd (s ρ) fun o => match o with
      | .nx ρ2 => whL p s k ρ2
      | .ct ρ2 => whL p s k ρ2
      | .bk ρ2 => pur (.nx ρ2)
      | .rt x => pur (.rt x)
def sWhile (n : Nat) (p : Env → M Bool) (s : Env → M Out) : Env → M Out := fun ρ => whL p s n ρ
section
variable {X : Cx} {c : Expr} {body : List Stmt} {pos : Pos} {p : Env → M Bool} {s : Env → M Out}
theorem ms_while (n : Nat) (hp : PassesOwn (model X.prog X.w) X.A X.env X.xe) (hc : MT X Er c p) (hb : MSs X Er body s) : MS X Er (.While c body [] pos) (sWhile n p s) := PS.imp (ps_while hp hc hb) fun D σ H ⟨F, m, G, S, ρ, w, r, z⟩ => by
  refine ⟨fun k σ1 H1 => ∃ F1 m1 S1 ρ1, Wd X.K F1 m1 G S1 H1 ∧ RepE X.K F1 m1 ρ1 σ1 ∧ resS X.K Er D F1 m1 G (whL p s k ρ1 S1), ⟨n, F, m, S, ρ, w, r, z⟩, ?_⟩
  rintro k σ1 H1 ⟨F1, m1, S1, ρ1, w1, r1, z1⟩
  cases k with
  | zero => exact z1.elim
  | succ k =>
    unfold whL bnd at z1
    refine ⟨F1, m1, G, S1, ρ1, w1, r1, ?_⟩
    cases q : p ρ1 S1 with
    | err => rw [q] at z1; exact z1
    | no => rw [q] at z1; exact z1
    | ok b S2 =>
      rw [q] at z1
      intro F2 m2 H2 b' e2 w2 eb
      have eb : b = b' := eb
      subst eb
      cases b with
      | false =>
        rw [if_neg Bool.false_ne_true]
        exact z1 F2 m2 H2 e2 w2 σ1 (r1.mono e2)
      | true =>
        rw [if_pos rfl]
        refine ⟨fun σ3 H3 => ∃ F3 m3 S3 ρ3, Wd X.K F3 m3 G S3 H3 ∧ RepE X.K F3 m3 ρ3 σ3 ∧ resS X.K Er D F3 m3 G (whL p s k ρ3 S3), fun σ3 H3 ⟨F3, m3, S3, ρ3, w3, r3, z3⟩ => ⟨k, Nat.lt_succ_self k, F3, m3, S3, ρ3, w3, r3, z3⟩, ?_⟩
        simp only [] at z1
        refine ⟨F2, m2, G, S2, ρ1, w2, r1.mono e2, ?_⟩
        cases q2 : s ρ1 S2 with
        | err => rw [q2] at z1; exact fun F' m' H' e => z1 F' m' H' (e2.trans e)
        | no => rw [q2] at z1; exact z1
        | ok o S3 =>
          rw [q2] at z1
          intro F3 m3 H3 e3 w3
          have z3 := resS_ext (e2.trans e3) z1
          cases o with
          | nx ρ3 => exact fun σ3 r3 => ⟨F3, m3, S3, ρ3, w3, r3, z3⟩
          | ct ρ3 => exact fun σ3 r3 => ⟨F3, m3, S3, ρ3, w3, r3, z3⟩
          | bk ρ3 => exact fun σ3 r3 => z3 F3 m3 H3 (Ext.refl _ _) w3 σ3 r3
          | rt v3 => exact fun σ3 r3 => z3 F3 m3 H3 (Ext.refl _ _) w3 σ3 r3
end
end Dz

/-! Dz24: in over a tuple of any data; a, b, .. = a list. -/
namespace Dz
open PySem PySem.Spec PyProof.Rows L2
theorem Rm.u65 {k : Nat} {A : Around} (r : Rm k A) : A.units + 65 < cLine := by have := r.room.un; omega
section
variable {X : Cx} {pos : Pos}
def rInDT (K : Frag) : R2 := fun x y H Q => ∃ d ds, Dp K H x d ∧ Dp K H y (.tuple ds) ∧ SeqAt.shaped d = true ∧ SeqAt.shaped (.tuple ds) = true ∧ Q (.bl (ds.any fun z => PyData.eqv z d)) H
theorem op_inDT (hu : X.A.units + 65 < cLine) : OpR X (compareOp .In) (rInDT X.K) := by
  intro pins s σ H x y v u Q I rx ry h
  obtain ⟨d, ds, hd, he, sd, se, q⟩ := h
  obtain ⟨as, r1⟩ := Dp.reads I d x v hd rx
  obtain ⟨bs, r2⟩ := Dp.reads I (.tuple ds) y u he ry
  exact SeqAt.in_tuple_reads r2 r1 (SeqAt.canLay_of_shaped se) (SeqAt.canLay_of_shaped sd) (room_in_shaped sd hu) ⟨.bl _, H, I, rfl, q⟩
/-- a tuple in a tuple of tuples -/
def cIn3 (a b : Vl) : M Vl := match a, b with
  | .d (.tup xs), .d (.tup ds) => opt (pyOf (.tup xs)) fun p => opt (pyOfs ds) fun ps => if SeqAt.shaped p && SeqAt.shaped (.tuple ps) then pur (.d (.bl (ps.any fun z => PyData.eqv z p))) else stuck
  | a, b => cIn2 a b
theorem om_in3 (hu : X.A.units + 65 < cLine) : OpM X Er (compareOp .In) cIn3 := fun pins s σ H x y v u Q I rx ry ⟨F, m, G, S, a, b, w, ra, rb, z⟩ => by
  have other : cIn2 a b S = cIn3 a b S → wpAny (model X.prog X.w) X.A (compareOp .In v u) (EP X pins σ Q) X.xe s := fun e => om_in2 (by omega) pins s σ H x y v u Q I rx ry ⟨F, m, G, S, a, b, w, ra, rb, by rw [e]; exact z⟩
  cases a with
  | c n => exact other rfl
  | d a =>
    cases a with
    | tup xs =>
      cases b with
      | c n => exact other rfl
      | d b =>
        cases b with
        | tup ds =>
          obtain ⟨p, hp, z1⟩ := res_opt (show res X.K Er (rV X.K) F m G (opt (pyOf (.tup xs)) (fun p => opt (pyOfs ds) fun ps => if SeqAt.shaped p && SeqAt.shaped (.tuple ps) then pur (.d (.bl (ps.any fun z => PyData.eqv z p))) else stuck) S) Q from z)
          obtain ⟨ps, hps, z2⟩ := res_opt z1
          by_cases hs : (SeqAt.shaped p && SeqAt.shaped (.tuple ps)) = true
          · rw [if_pos hs] at z2
            rw [Bool.and_eq_true] at hs
            have hb : pyOf (.tup ds) = some (.tuple ps) := by unfold pyOf; rw [hps]
            exact op_inDT hu pins s σ H x y v u Q I rx ry ⟨p, ps, pyOf_dp w.sub ra hp, pyOf_dp w.sub rb hb, hs.1, hs.2, res_ok w (.bl _) z2⟩
          · rw [if_neg hs] at z2; exact z2.elim
        | _ => exact other rfl
    | _ => exact other rfl
/-- a, b, .. = a list -/
def sAsgL (f : Env → M Vl) (is : List Nat) : Env → M Out := fun ρ => bnd (f ρ) fun x => match x with
  | .d (.lst ds) => if ds.length = is.length then pur (.nx (setAll is ds ρ)) else stuck
  | _ => stuck
theorem ms_asgL {es : List Expr} {e : Expr} {f : Env → M Vl} {is : List Nat} {kk : Nat} {tpos : Pos} (hc : X.calm = true) (he : ME X Er e f) (hg : MGs X es is) (hn : (assignEach es X.env).length = is.length := by rfl) (hst : (assignEach es X.env).findIdx? (·.1) = none := by rfl)
    (hs : swapsWithSole [.Tuple es kk tpos] e pos.line X.env = pure false := by rfl) (hw : swappedStores [.Tuple es kk tpos] e X.env = pure none := by rfl) (h1 : (assignEach [.Tuple es kk tpos] X.env).map (·.2) = [assign (.Tuple es kk tpos) X.env] := by rfl) :
    MS X Er (.Assign [.Tuple es kk tpos] e pos) (sAsgL f is) := PS.imp (ps_asg he (pg_lst hc hg hn hst) hs hw h1) fun D σ H ⟨F, m, G, S, ρ, w, r, z⟩ => by
  refine rd_mono (rd_bndS (A := rV X.K) w r z) fun v H1 ⟨F1, m1, S1, a1, e1, w1, r1, ra, q1⟩ => ?_
  split at q1
  · rename_i ds
    split at q1
    · rename_i hl
      cases ra with
      | lst ha rs => exact ⟨_, _, rfl, w1.sub.seq (SqL.of ha), by rw [← rs.length]; exact hl, slots_of (vs0 := []) rs hl r1 fun σ2 r2 hw => q1 F1 m1 H1 (Ext.refl _ _) w1 σ2 r2⟩
    · exact q1.elim
  · exact q1.elim
end
end Dz

/-! Dz25: two lists of instances that are equal, one by one. -/
namespace Dz
open PySem PySem.Spec PyProof.Rows L2
/-- the i-th two are instances of c, and equal by its own method, whatever the store -/
def Pairs (c : Str) (φ : List Vl → M Vl) : List D → List D → Prop
  | [], [] => True
  | .ins c1 f :: xs, .ins c2 g :: ys => c1 = c ∧ c2 = c ∧ φ [.d (.ins c1 f), .d (.ins c2 g)] = pur (.d (.bl true)) ∧ Pairs c φ xs ys
  | _, _ => False
theorem Pairs.len {c : Str} {φ : List Vl → M Vl} : ∀ {xs ys : List D}, Pairs c φ xs ys → xs.length = ys.length
  | [], [], _ => rfl
  | .ins _ _ :: xs, .ins _ _ :: ys, h => congrArg (· + 1) (Pairs.len h.2.2.2)
theorem Pairs.at {c : Str} {φ : List Vl → M Vl} : ∀ {xs ys : List D} {i : Nat} {x y : D}, Pairs c φ xs ys → xs[i]? = some x → ys[i]? = some y → ∃ f g, x = .ins c f ∧ y = .ins c g ∧ φ [.d x, .d y] = pur (.d (.bl true))
  | .ins c1 f :: xs, .ins c2 g :: ys, 0, _, _, h, h1, h2 => by
    simp at h1 h2
    subst h1 h2
    obtain ⟨rfl, rfl, e, _⟩ := h
    exact ⟨f, g, rfl, rfl, e⟩
  | .ins c1 f :: xs, .ins c2 g :: ys, i + 1, _, _, h, h1, h2 => Pairs.at (i := i) h.2.2.2 (by simpa using h1) (by simpa using h2)
open Classical in
noncomputable def eqLs (c : Str) (φ : List Vl → M Vl) (g : Vl → Vl → M Vl) (a b : Vl) : M Vl := match a, b with
  | .d (.lst xs), .d (.lst ys) => if Pairs c φ xs ys then pur (.d (.bl true)) else g (.d (.lst xs)) (.d (.lst ys))
  | a, b => g a b
section
variable {X : Cx} {c : Str} {φ : List Vl → M Vl} {g : Vl → Vl → M Vl} {k : Nat} {f : Addr}
theorem eq_pair {A : Around} {pins : List (Addr × Obj)} {s : Shared} {σ : L2.St} {H F Gh : Hp} {m : List Addr} {S : Sto} {x y : V} {u v : Value} {a b : D} {fa fb : List (Str × D)} (hs : DunC X.K c "__eq__" f) (hn : PySem.W.notFirst X.K (He.ga X.K c) (.ref (He.ga X.K c)) = true) (G : FnG X.prog X.w X.K X.mg X.base (CX X.prog X.w) k 2 f (spM X.K 2 φ)) (hr : Rm k A) (hA : A.frames = X.A.frames)
    (I : Inv X pins σ H s) (rx : RelV x u) (ry : RelV y v) (w : Wd X.K F m Gh S H) (ra : Rep X.K F a x) (rb : Rep X.K F b y) (ea : a = .ins c fa) (eb : b = .ins c fb) (e : φ [.d a, .d b] = pur (.d (.bl true))) :
    wpAny (model X.prog X.w) A (eqBool u v) (fun r s' => r = true ∧ ∃ F' m' H', Inv X pins σ H' s' ∧ Wd X.K F' m' Gh S H' ∧ Ext F F' m m') X.xe s := by
  subst ea eb
  cases ra with
  | ins ha rs =>
  cases rb with
  | ins hb ts =>
  rename_i p1 d1 v1 p2 d2 v2
  cases rx
  cases ry
  by_cases hab : p1 = p2
  · subst hab
    exact SeqAt.EqAt.same (A := A) (s := s) (.ref p1) X.prog X.w X.xe _ ⟨rfl, F, m, H, I, w, Ext.refl _ _⟩
  · refine GQ.eqBool_refG hab ?_
    obtain ⟨ox, od, J⟩ := inst_of I (w.sub _ _ ha)
    obtain ⟨oy, oe, J2⟩ := inst_of I (w.sub _ _ hb)
    obtain ⟨mF, hF⟩ := I.fr
    refine PySem.W.cmp_K (op := .Eq) hr.room.units0 hF I.ok.mod.kin J J2.type hn hs.at_ hs.fn ?_
    have e0 : Env0 X.prog X.w X.K X.mg X.base A X.stack s H := by
      have e := I.env0
      exact ⟨by rw [hA]; exact e.frames, e.mod, e.bs, e.bsz, e.funs, e.frf, e.hok, e.bare⟩
    have z : res X.K er0 (rV X.K) F m Gh (noE (φ [.d (.ins c fa), .d (.ins c fb)]) S) (fun v H' => v = .bl true ∧ ∃ F' m', Wd X.K F' m' Gh S H' ∧ Ext F F' m m') := by
      rw [e, noE_pur]
      intro F' m' H' b e' w' rb
      cases rb
      exact ⟨rfl, F', m', w', e'⟩
    refine wpAny_mono (run_dun (vs := [V.ref _, V.ref _]) G hr e0 I (.cons rfl (.cons rfl .nil)) rfl w (.cons (x := .d (.ins _ _)) (Rep.ins ha rs) (.cons (x := .d (.ins _ _)) (Rep.ins hb ts) .nil)) z) (fun r s' h => ?_) fun _ _ h => h
    obtain ⟨v3, H3, I3, r3, rfl, F3, m3, w3, e3⟩ := h
    obtain rfl : r = Value.bool true := r3
    exact ⟨true, rfl, rfl, F3, m3, H3, I3, w3, e3⟩
theorem om_eqLs (hb : OpM X Er (compareOp .Eq) g) (hs : DunC X.K c "__eq__" f) (hn : PySem.W.notFirst X.K (He.ga X.K c) (.ref (He.ga X.K c)) = true) (G : FnG X.prog X.w X.K X.mg X.base (CX X.prog X.w) k 2 f (spM X.K 2 φ)) (hr : Rm (k + 1) X.A) :
    OpM X Er (compareOp .Eq) (eqLs c φ g) := fun pins s σ H x y v u Q I rx ry ⟨F, m, Gh, S, a, b, w, ra, rb, z⟩ => by
  have other : g a b S = eqLs c φ g a b S → wpAny (model X.prog X.w) X.A (compareOp .Eq v u) (EP X pins σ Q) X.xe s := fun e => hb pins s σ H x y v u Q I rx ry ⟨F, m, Gh, S, a, b, w, ra, rb, by rw [e]; exact z⟩
  cases a with
  | c n => exact other rfl
  | d a =>
    cases a with
    | lst xs =>
      cases b with
      | c n => exact other rfl
      | d b =>
        cases b with
        | lst ys =>
          by_cases hp : Pairs c φ xs ys
          · have z : res X.K Er (rV X.K) F m Gh (R.ok (.d (.bl true)) S) Q := by
              have e : eqLs c φ g (.d (.lst xs)) (.d (.lst ys)) = pur (.d (.bl true)) := by
                unfold eqLs
                simp only []
                rw [if_pos hp]
              rw [e] at z
              exact z
            cases ra with
            | lst ha rs =>
            cases rb with
            | lst hb' ts =>
            cases rx
            cases ry
            show wpAny (model X.prog X.w) X.A (richCompare .Eq _ _) (EP X pins σ Q) X.xe s
            refine GQ.rc_listG (N := xs.length) hr.room.units0 (fun _ s' => ∃ F' m' H', Inv X pins σ H' s' ∧ Wd X.K F' m' Gh S H' ∧ Ext F F' m m') (fun i s' q => ?_) (fun s' q => ?_) ⟨F, m, H, I, w, Ext.refl _ _⟩
            · obtain ⟨F1, m1, H1, I1, w1, e1⟩ := q
              have rs1 := rs.mono e1.fro
              have ts1 := ts.mono e1.fro
              obtain ⟨z1, its, n1, r1, g1⟩ := (show ObjOk X.prog X.w H1 s'.heap _ (.lst _) from I1.hok _ _ (w1.sub _ _ (e1.fro _ _ ha)))
              obtain ⟨z2, its2, n2, r2, g2⟩ := (show ObjOk X.prog X.w H1 s'.heap _ (.lst _) from I1.hok _ _ (w1.sub _ _ (e1.fro _ _ hb')))
              refine ⟨its.toArray, its2.toArray, n1, n2, g1, g2, by rw [List.size_toArray, ← r1.length, ← rs1.length], by rw [List.size_toArray, ← r2.length, ← ts1.length, hp.len], fun h1 h2 => ?_⟩
              have k1 : i < its.length := by simpa using h1
              have k2 : i < its2.length := by simpa using h2
              have j1 : i < xs.length := by rw [rs1.length, r1.length]; exact k1
              have j2 : i < ys.length := by rw [ts1.length, r2.length]; exact k2
              obtain ⟨vx, hvx, rvx⟩ := rs1.get (List.getElem?_eq_getElem j1)
              obtain ⟨vy, hvy, rvy⟩ := ts1.get (List.getElem?_eq_getElem j2)
              obtain ⟨ux, hux, rux⟩ := r1.get hvx
              obtain ⟨uy, huy, ruy⟩ := r2.get hvy
              obtain ⟨fa, fb, ea, eb, ep⟩ := hp.at (List.getElem?_eq_getElem j1) (List.getElem?_eq_getElem j2)
              rw [List.getElem?_eq_getElem k1] at hux
              rw [List.getElem?_eq_getElem k2] at huy
              have ex : its.toArray[i] = ux := by simpa using Option.some.inj hux
              have ey : its2.toArray[i] = uy := by simpa using Option.some.inj huy
              rw [ex, ey]
              refine wpAny_mono (eq_pair hs hn G hr.in1 rfl I1 rux ruy w1 rvx rvy ea eb ep) (fun r s2 q => ?_) fun _ _ h => h
              obtain ⟨hr2, F2, m2, H2, I2, w2, e2⟩ := q
              exact ⟨hr2, F2, m2, H2, I2, w2, e1.trans e2⟩
            · obtain ⟨F1, m1, H1, I1, w1, e1⟩ := q
              exact ⟨.bl true, H1, I1, rfl, z F1 m1 H1 (.bl true) e1 w1 (Rep.bl true)⟩
          · refine other ?_
            unfold eqLs
            simp only []
            rw [if_neg hp]
        | _ => exact other rfl
    | _ => exact other rfl
end
end Dz

/-! Dz26: more steps of wp. -/
namespace Dz
open PySem L2
theorem w_len {α : Type} {n : Nat} {p q : M α} {S : Sto} {Q : α → Sto → Prop} (h : n ≤ 100000) : wp (if n ≤ 100000 then p else q) S Q ↔ wp p S Q := by rw [if_pos h]
section
variable {c : Str} {φ : List Vl → M Vl} {g : Vl → Vl → M Vl} {fs gs : List (Str × D)}
theorem dunBin_ins : dunBin c φ g (.d (.ins c fs)) (.d (.ins c gs)) = φ [.d (.ins c fs), .d (.ins c gs)] := by
  show (if c = c ∧ c = c then _ else _) = _
  rw [if_pos ⟨rfl, rfl⟩]
theorem dunBin_int {a b : Int} : dunBin c φ g (.d (.int a)) (.d (.int b)) = g (.d (.int a)) (.d (.int b)) := rfl
theorem dunUn_ins : dunUn c φ (.d (.ins c fs)) = φ [.d (.ins c fs)] := by
  show (if c = c then _ else _) = _
  rw [if_pos rfl]
theorem dunIn_lst {xs : List D} {a : Vl} : dunIn c φ g a (.d (.lst xs)) = g a (.d (.lst xs)) := rfl
theorem dunIn_tup {xs : List D} {a : Vl} : dunIn c φ g a (.d (.tup xs)) = g a (.d (.tup xs)) := rfl
end
theorem w_asgL {f : Env → M Vl} {is : List Nat} {ρ : Env} {S : Sto} {Q : Out → Sto → Prop} : wp (sAsgL f is ρ) S Q ↔ wp (f ρ) S fun x S => wp (match x with
  | .d (.lst ds) => if ds.length = is.length then pur (.nx (setAll is ds ρ)) else stuck
  | _ => stuck) S Q := wp_bnd
theorem eqLs_pairs {c : Str} {φ : List Vl → M Vl} {g : Vl → Vl → M Vl} {xs ys : List D} (h : Pairs c φ xs ys) : eqLs c φ g (.d (.lst xs)) (.d (.lst ys)) = pur (.d (.bl true)) := by
  unfold eqLs
  simp only []
  rw [if_pos h]
/-- a for over ints by an invariant, that may draw; no turn leaves early -/
theorem forL_inv {i : Nat} {s : Env → M Out} {I : Env → Sto → Prop} {Q : Out → Sto → Prop} : ∀ (l : List Int) (ρ : Env) (S : Sto), I ρ S → (∀ n ∈ l, ∀ ρ S, I ρ S → wp (s (ρ.set i (some (.d (.int n))))) S fun o S' => ∃ ρ2, o = .nx ρ2 ∧ I ρ2 S') →
    (∀ ρ S, I ρ S → Q (.nx ρ) S) → wp (forL (.one i) s (l.map D.int) ρ) S Q
  | [], ρ, S, hI, _, hq => wp_pur.mpr (hq ρ S hI)
  | n :: l, ρ, S, hI, h, hq => by
    rw [List.map_cons]
    unfold forL
    show wp (bnd (s (ρ.set i (some (.d (.int n))))) _) S Q
    refine wp_bnd.mpr (wp_mono (h n List.mem_cons_self ρ S hI) ?_)
    rintro o S1 ⟨ρ2, rfl, hI2⟩
    exact forL_inv l ρ2 S1 hI2 (fun x hx => h x (List.mem_cons_of_mem _ hx)) hq
/-- a comprehension whose items draw: what each of them is -/
theorem lcL_each {i : Nat} {f : Env → M Vl} {ρ : Env} {I : Sto → Prop} {B : D → Prop} : ∀ (l : List Int) (S : Sto), I S → (∀ n ∈ l, ∀ S, I S → wp (f (ρ.set i (some (.d (.int n))))) S fun x S' => ∃ y, x = .d y ∧ B y ∧ I S') →
    wp (lcL (.one i) bYes f ρ (l.map D.int)) S fun ys S' => ys.length = l.length ∧ (∀ y ∈ ys, B y) ∧ I S' := fun l S hI h => by
  refine wp_mono (lcL_wp (I := I) (B := B) (l.map D.int) S hI fun d hd S hI => ?_) fun ys S' ⟨a, b, c⟩ => ⟨by simpa using a, b, c⟩
  obtain ⟨n, hn, rfl⟩ := List.mem_map.mp hd
  exact ⟨_, rfl, h n hn S hI⟩
end Dz

/-! Dz27: sum, append on a cell, [*a, *b], min(xs, default=d). -/
namespace Dz
open PySem PySem.Spec PyProof.Rows L2
section
variable {X : Cx} {pos : Pos}
/-! ### sum of ints -/
def bSum : List Vl → M Vl := fun xs => match xs with
  | [.d (.lst ds)] => opt (intsOf ds) fun ns => pur (.d (.int ns.sum))
  | _ => stuck
theorem cm_sum (hc : X.calm = true) : CallM X Er (.builtin "sum") bSum := callM_of (cr_sum hc) fun F m G S H xs vs Q w rs z => by
  unfold bSum at z
  split at z
  · cases rs with
    | cons r1 r2 =>
    cases r2
    cases r1 with
    | lst ha r =>
    obtain ⟨ns, hn, z2⟩ := res_opt z
    have e := intsOf_eq hn
    subst e
    have e2 := reps_ints_eq r
    subst e2
    exact ⟨_, ns, rfl, w.sub.seq (SqL.of ha), res_ok (A := rV X.K) (a := .d (.int ns.sum)) (b := V.int ns.sum) w (Rep.int _) z2⟩
  · exact z.elim
/-! ### xs.append(e), xs a cell -/
def appC (o v : Vl) : M Vl := fun S => match o, v with
  | .c n, .d y => match S[n]? with
    | some (.lst xs) => if xs.length < 100000 then .ok (.d .non) (S.set n (.lst (xs ++ [y]))) else .no
    | _ => .no
  | _, _ => .no
/-- xs is a cell that is a list -/
def isCl (o : Vl) : M Unit := fun S => match o with
  | .c n => match S[n]? with
    | some (.lst _) => .ok () S
    | _ => .no
  | _ => .no
def eApp (f g : Env → M Vl) : Env → M Vl := fun ρ => bnd (f ρ) fun o => bnd (isCl o) fun _ => bnd (g ρ) fun v => appC o v
theorem res_isCl {α β : Type} {K : Frag} {A : Hp → List Addr → α → β → Prop} {F G H : Hp} {m : List Addr} {S : Sto} {o : Vl} {v : V} {k : Unit → M α} {Q : β → Hp → Prop} (w : Wd K F m G S H) (r : RepV K F m o v) (h : res K Er A F m G (bnd (isCl o) k S) Q) :
    ∃ n a xs, o = .c n ∧ m[n]? = some a ∧ v = .ref a ∧ H a = some (.lst xs) ∧ res K Er A F m G (k () S) Q := by
  unfold isCl bnd at h
  cases o with
  | d x => exact h.elim
  | c n =>
    simp only [] at h
    cases q : S[n]? with
    | none => rw [q] at h; exact h.elim
    | some b =>
      rw [q] at h
      cases b with
      | ins c fs => exact h.elim
      | lst xs =>
        obtain ⟨a, hm, rfl⟩ := r
        obtain ⟨oo, ho, rr⟩ := w.cells n a _ hm q
        cases rr with
        | lst rs => exact ⟨n, a, _, rfl, hm, rfl, ho, h⟩
theorem me_append {o e : Expr} {f g : Env → M Vl} {apos cpos : Pos} (ho : ME X Er o f) (he : ME X Er e g)
    (hbase : attributeBase o "append" X.env (eval o X.env) = eval o X.env := by rfl) (hfew : ((backTo cpos (starEach [e] X.env)).all (fun x => !x.1) && (backToKw cpos (keywordEach [] X.env)).all (fun x => x.1.isSome)
      && decide ([e].length + ([] : List Keyword).length + (if ([] : List Keyword).isEmpty then 0 else 1) < 30)) = true := by rfl) (hline : (apos.endLine == cpos.line) = true := by rfl) (hs : starEach [e] X.env = (false, eval e X.env) :: starEach [] X.env := by rfl) (hplain : (backTo cpos (starEach [] X.env)).any (·.1) = false := by rfl) :
    ME X Er (.Call (.Attribute o "append" apos) [e] [] cpos) (eApp f g) :=
  PE.imp (pe_bm PySem.F.plainAttrs_list PySem.F.slot_list_append PySem.F.type_list_append mt_append ho (pa_cons he pa_nil hs) hbase hfew hline hs hplain) fun σ H Q ⟨F, m, G, S, ρ, w, r, z⟩ => by
  refine rd_mono (rd_bnd (A := rV X.K) w r z) fun ov H1 ⟨F1, m1, S1, a1, e1, w1, r1, ra, q1⟩ => ?_
  obtain ⟨n, a, xs, rfl, hm, rfl, hx, q1⟩ := res_isCl w1 ra q1
  refine ⟨.inl ⟨rfl, _, SqL.of hx⟩, ?_⟩
  refine rd_mono (rd_bnd (A := rV X.K) w1 r1 q1) fun v H2 ⟨F2, m2, S2, a2, e2, w2, r2, rb, q2⟩ => ?_
  have hm2 := e2.at hm
  unfold appC at q2
  cases a2 with
  | c k => exact q2.elim
  | d y =>
    simp only [] at q2
    cases q : S2[n]? with
    | none => rw [q] at q2; exact q2.elim
    | some b =>
      rw [q] at q2
      cases b with
      | ins c fs => exact q2.elim
      | lst ys =>
        obtain ⟨oo, ho, rr⟩ := w2.cells n a _ hm2 q
        cases rr with
        | lst rs =>
          simp only [] at q2
          split at q2
          · rename_i hl
            refine ⟨a, _, v, rfl, rfl, ho, by rw [← rs.length]; exact sz5' hl, ?_⟩
            exact q2 F2 m2 _ _ (Ext.refl _ _) (w2.write hm2 (.lst (rs.append (.cons rb .nil)))) .non
          · exact q2.elim
/-! ### *xs in a display -/
def aStar (f : Env → M Vl) (g : Env → M (List Vl)) : Env → M (List Vl) := fun ρ => bnd (f ρ) fun x => bnd (seqOf x) fun ds => bnd (g ρ) fun ys => pur (ds.map Vl.d ++ ys)
theorem repVs_ds {K : Frag} {F : Hp} {m : List Addr} : ∀ {ds : List D} {vs : List V}, Reps K F ds vs → RepVs K F m (ds.map Vl.d) vs
  | _, _, .nil => .nil
  | _, _, .cons r rs => .cons (x := .d _) r (repVs_ds rs)
theorem repVs_app {K : Frag} {F : Hp} {m : List Addr} : ∀ {xs ys : List Vl} {vs us : List V}, RepVs K F m xs vs → RepVs K F m ys us → RepVs K F m (xs ++ ys) (vs ++ us)
  | _, _, _, _, .nil, r => r
  | _, _, _, _, .cons a b, r => .cons a (repVs_app b r)
theorem ma_star {e : Expr} {es : List Expr} {p : Pos} {f : Env → M Vl} {fs : Env → M (List Vl)} (ha : ME X Er e f) (hr : MA X Er es fs) (hs : starEach (.Starred e p :: es) X.env = (true, eval e X.env) :: starEach es X.env := by rfl) : MA X Er (.Starred e p :: es) (aStar f fs) := PA.imp (StX.pa_star ha hr hs) fun σ H Q ⟨F, m, G, S, ρ, w, r, z⟩ => by
  refine rd_mono (rd_bnd (A := rV X.K) w r z) fun x H1 ⟨F1, m1, S1, a1, e1, w1, r1, ra, q1⟩ => ?_
  unfold bnd at q1
  cases q : seqOf a1 S1 with
  | err => exact (seqOf_err q).elim
  | no => rw [q] at q1; exact q1.elim
  | ok ds S2 =>
    rw [q] at q1
    obtain ⟨rfl, a, vs, rfl, hv, rs⟩ := seqOf_rep w1 ra q
    refine ⟨a, vs, rfl, hv.symm, ?_⟩
    refine rd_mono (rd_bnd (A := rVs X.K) w1 r1 q1) fun xs H2 ⟨F2, m2, S2, a2, e2, w2, r2, rb, q2⟩ => ?_
    exact res_ok w2 (repVs_app (repVs_ds (rs.mono e2.fro)) rb) q2
/-! ### min(xs, default=d) of ints -/
/-- a state that parts from another one in heap and tokens alone -/
theorem same_but {s s2 : Shared} (h1 : s2.gens = s.gens) (h2 : s2.drawn = s.drawn) (h3 : s2.os = s.os) : s2 = { s with heap := s2.heap, toks := s2.toks } := by
  cases s2
  cases h1; cases h2; cases h3
  rfl
/-- where min stops, a least one stands -/
theorem least_at {xs : Array (Int × Tok)} {v : Value} (hpos : 0 < xs.size) (hv : (intItems xs)[argBest (fun i j => decide (numAt xs i < numAt xs j)) (xs.size - 1)]? = some v) :
    ∃ M t, v = .int M t ∧ M ∈ xs.toList.map (·.1) ∧ ∀ a ∈ xs.toList.map (·.1), M ≤ a := by
  have len : (xs.toList.map (·.1)).length = xs.size := (List.length_map _).trans Array.length_toList
  have best := argBest_lt (numAt xs) (xs.size - 1)
  obtain ⟨t, e⟩ := intItems_at hv
  refine ⟨_, t, e, numAt_eq xs _ ▸ PySem.getD_mem (by omega), fun a ha => ?_⟩
  obtain ⟨j, hj, ea⟩ := mem_getD ha
  rw [← ea, ← numAt_eq]
  exact best.2 j (by omega)
theorem min_rawD {prog : Program} {w : World} {A : Around} {E : Value → Shared → Prop} {s : Shared} {l : Addr} {its : List Value} {ns : List Int} {d : Value} {Q : Value → Shared → Prop} (hh : A.handled = none) (hl : s.heap.IsList l its.toArray) (hi : IntsAre its ns)
    (h0 : ns = [] → ∀ h' tk, (∀ b o, s.heap.get? b = some o → h'.get? b = some o) → Q d { s with heap := h', toks := tk })
    (h : ∀ h' tk M t', (∀ b o, s.heap.get? b = some o → h'.get? b = some o) → M ∈ ns → (∀ a, a ∈ ns → M ≤ a) → Q (.int M t') { s with heap := h', toks := tk }) : wpAny (model prog w) A (call (.builtin "min") [.ref l] [(Str.ofString "default", d)]) Q E s := by
  obtain ⟨xs, eits⟩ := hi.allInts.items
  have ens : xs.toList.map (·.1) = ns := by rw [← nums_intItems, ← eits, hi.numsOf]
  rw [eits] at hl
  refine call_min_walkD (iter_intList hl fun s₂ e st hfp hlI => ?_)
  subst e
  have one : ∀ b ∈ [s.heap.objs.size], ∀ o, s.heap.get? b ≠ some o := fun b hb o e => Nat.lt_irrefl _ (List.mem_singleton.mp hb ▸ Heap.lt_size e)
  refine ⟨_, _, _, _, _, _, _, s.heap, fun i j => decide (numAt xs i < numAt xs j), rfl, (Walks.list (prog := prog) (w := w) (A := A.in1) hh s.heap.objs.size l hlI (intItems xs)).toS, st, hfp, fun b o e hm => one b hm o e, fun b o e => Heap.get?_push_of_some _ e,
    fun hz s' mv => ?_, fun hpos => ⟨fun i j vi vj s' Q' E' _ => CmpOf.ints_lt (numAt xs) (fun _ _ => intItems_at) i j vi vj s' Q' E', fun v s' hP mv => ?_⟩⟩
  · rw [same_but mv.gens mv.drawn mv.os]
    refine h0 ?_ _ _ (old_kept mv.heap)
    have z : xs = #[] := Array.size_eq_zero_iff.mp (by simpa [intItems] using hz)
    rw [← ens, z]
    rfl
  · rw [same_but mv.gens mv.drawn mv.os]
    obtain ⟨M, t, rfl, h1, h2⟩ := least_at (xs := xs) (by simpa [intItems] using hpos) (by simpa [intItems] using hP)
    exact h _ _ M t (old_kept mv.heap) (ens ▸ h1) fun a ha => h2 a (ens.symm ▸ ha)
def minOr (ns : List Int) (d : D) : D := match ns.min? with
  | some k => .int k
  | none => d
def bMinD (xs ys : List Vl) : M Vl := match xs, ys with
  | [x], [.d d] => bnd (seqOf x) fun ds => match x with
    | .d (.tup _) => stuck
    | _ => opt (intsOf ds) fun ns => pur (.d (minOr ns d))
  | _, _ => stuck
theorem seqOf_l {K : Frag} {F G H : Hp} {m : List Addr} {S S' : Sto} {x : Vl} {v : V} {ds : List D} (w : Wd K F m G S H) (r : RepV K F m x v) (ht : ∀ ds, x ≠ .d (.tup ds)) (h : seqOf x S = .ok ds S') : S' = S ∧ ∃ a vs, v = .ref a ∧ SqL K H a vs ∧ Reps K F ds vs := by
  unfold seqOf at h
  split at h
  · cases h
    cases r with
    | lst ha rs => exact ⟨rfl, _, _, rfl, w.sub.seq (SqL.of ha), rs⟩
  · exact absurd rfl (ht _)
  · rename_i n
    obtain ⟨a, hm, rfl⟩ := r
    unfold getC at h
    split at h
    · rename_i xs hx
      cases h
      obtain ⟨oo, ho, rr⟩ := w.cells n a _ hm hx
      cases rr with
      | lst rs => exact ⟨rfl, _, _, rfl, SqL.of ho, rs⟩
    · cases h
  · cases h
theorem crk_minD (hc : X.calm = true) : CallRK X (.builtin "min") [Str.ofString "default"] (fun vs zs H Q => ∃ F m G S xs ys, Wd X.K F m G S H ∧ RepVs X.K F m xs vs ∧ RepVs X.K F m ys zs ∧ res X.K Er (rV X.K) F m G (bMinD xs ys S) Q) := by
  intro pins s σ H vs zs us ws Q I rv rz h
  obtain ⟨F, m, G, S, xs, ys, w, rx, ry, z⟩ := h
  unfold bMinD at z
  split at z
  · rename_i x d
    cases rx with
    | cons r1 r2 =>
    cases r2
    cases ry with
    | cons r3 r4 =>
    cases r4
    cases rv with
    | cons v1 v2 =>
    cases v2
    cases rz with
    | cons v3 v4 =>
    cases v4
    unfold bnd at z
    cases q : seqOf x S with
    | err => exact (seqOf_err q).elim
    | no => rw [q] at z; exact z.elim
    | ok ds S2 =>
      rw [q] at z
      by_cases ht : ∃ ds, x = .d (.tup ds)
      · obtain ⟨ts, rfl⟩ := ht
        exact z.elim
      · obtain ⟨rfl, a, vs, rfl, hv, rs⟩ := seqOf_l w r1 (fun ds e => ht ⟨ds, e⟩) q
        have z2 : res X.K Er (rV X.K) F m G (opt (intsOf ds) (fun ns => pur (.d (minOr ns d))) S2) Q := by
          simp only [] at z
          split at z
          · exact absurd ⟨_, rfl⟩ ht
          · exact z
        obtain ⟨ns, hn, z3⟩ := res_opt z2
        have e := intsOf_eq hn
        subst e
        have e2 := reps_ints_eq rs
        subst e2
        cases v1
        obtain ⟨its, rw', hl, _⟩ := I.list hv
        refine min_rawD (I.ok.hd hc) hl.isList rw'.ints (fun e h' tk hk => ?_) fun h' tk M t' hk h1 h2 => ?_
        · refine ⟨_, H, I.kept hk, v3, ?_⟩
          subst e
          exact res_ok (A := rV X.K) (a := .d d) w r3 z3
        · refine ⟨.int M, H, I.kept hk, ⟨_, rfl⟩, ?_⟩
          have hm : ns.min? = some M := by
            rw [List.min?_eq_some_iff]
            exact ⟨h1, h2⟩
          have em : minOr ns d = .int M := by unfold minOr; rw [hm]
          rw [em] at z3
          exact res_ok (A := rV X.K) (a := .d (.int M)) (b := V.int M) w (Rep.int M) z3
  · exact z.elim
def eMinD (fs gs : Env → M (List Vl)) : Env → M Vl := fun ρ => bnd (fs ρ) fun xs => bnd (gs ρ) fun ys => bMinD xs ys
/-- keyword values -/
abbrev MK (X : Cx) (Er : ErT) (kws : List Keyword) (f : Env → M (List Vl)) : Prop := PK X kws (tA X.K Er f)
theorem PK.imp {X : Cx} {kws : List Keyword} {t t' : TA} (h : PK X kws t) (i : ∀ σ H Q, t' σ H Q → t σ H Q) : PK X kws t' := ⟨fun pos pins s σ H Q I q => h.run pos pins s σ H Q I (i σ H Q q)⟩
theorem mk_nil : MK X Er [] aNil := PK.imp pk_nil fun σ H Q ⟨F, m, G, S, ρ, w, r, z⟩ => res_ok (A := rVs X.K) (a := []) (b := []) w .nil z
theorem mk_cons {nm : Option Str} {e : Expr} {kpos : Pos} {kws : List Keyword} {f : Env → M Vl} {fs : Env → M (List Vl)} (ha : ME X Er e f) (hr : MK X Er kws fs) : MK X Er (⟨nm, e, kpos⟩ :: kws) (aCons f fs) := PK.imp (pk_cons ha hr) fun σ H Q ⟨F, m, G, S, ρ, w, r, z⟩ => by
  refine rd_mono (rd_bnd (A := rV X.K) w r z) fun x H1 ⟨F1, m1, S1, a1, e1, w1, r1, ra, q1⟩ => ?_
  refine rd_mono (rd_bnd (A := rVs X.K) w1 r1 q1) fun xs H2 ⟨F2, m2, S2, a2, e2, w2, r2, rb, q2⟩ => ?_
  exact res_ok w2 (.cons (ra.mono e2) rb) q2
theorem me_minD {p : Pos} {e : Expr} {es : List Expr} {kws : List Keyword} {fs gs : Env → M (List Vl)} (hc : X.calm = true) (hg : Gl X "min") (hm : X.mg "min" = none) (ha : MA X Er (e :: es) fs) (hk : MK X Er kws gs) (he : backTo pos (starEach (e :: es) X.env) = (false, eval e X.env) :: backTo pos (starEach es X.env) := by rfl) (hpl : (backTo pos (starEach (e :: es) X.env)).any (·.1) = false := by rfl)
    (hall : (backToKw pos (keywordEach kws X.env)).all (·.1.isSome) = true := by rfl) (hnone : (backToKw pos (keywordEach kws X.env)).any (·.1.isNone) = false := by rfl) (hks : (backToKw pos (keywordEach kws X.env)).filterMap (·.1) = [Str.ofString "default"] := by rfl) :
    ME X Er (.Call (.Name "min" p) (e :: es) kws pos) (eMinD fs gs) := PE.imp (pe_callBK (crk_minD hc) hg hm (by decide +kernel) ha hk (by decide) (by decide) he hpl hall hnone hks) fun σ H Q ⟨F, m, G, S, ρ, w, r, z⟩ => by
  refine rd_mono (rd_bnd (A := rVs X.K) w r z) fun xs H1 ⟨F1, m1, S1, a1, e1, w1, r1, ra, q1⟩ => ?_
  refine rd_mono (rd_bnd (A := rVs X.K) w1 r1 q1) fun ys H2 ⟨F2, m2, S2, a2, e2, w2, r2, rb, q2⟩ => ?_
  exact ⟨F2, m2, G, S2, a1, a2, w2, ra.mono e2, rb, q2⟩
end
section
variable {S : Sto} {ρ : Env} {f g : Env → M Vl} {fs gs : Env → M (List Vl)} {Q : Vl → Sto → Prop}
theorem w_sum {ns : List Int} : wp (bSum [.d (.lst (ns.map D.int))]) S Q ↔ Q (.d (.int ns.sum)) S := by
  show wp (opt (intsOf (ns.map D.int)) _) S Q ↔ _
  rw [intsOf_map]
  exact wp_pur
theorem w_app : wp (eApp f g ρ) S Q ↔ wp (f ρ) S fun o S => wp (isCl o) S fun _ S => wp (g ρ) S fun v S => wp (appC o v) S Q := by
  unfold eApp
  simp only [wp_bnd]
theorem w_isCl {n : Nat} {xs : List D} {Q : Unit → Sto → Prop} (h : S[n]? = some (.lst xs)) : wp (isCl (.c n)) S Q ↔ Q () S := by
  constructor
  · rintro ⟨a, S', e, q⟩
    unfold isCl at e
    simp only [] at e
    rw [h] at e
    cases e
    exact q
  · intro q
    refine ⟨(), S, ?_, q⟩
    unfold isCl
    simp only []
    rw [h]
theorem w_appC {n : Nat} {xs : List D} {y : D} (h : S[n]? = some (.lst xs)) (hl : xs.length < 100000) : wp (appC (.c n) (.d y)) S Q ↔ Q (.d .non) (S.set n (.lst (xs ++ [y]))) := by
  have e : appC (.c n) (.d y) S = .ok (.d .non) (S.set n (.lst (xs ++ [y]))) := by
    unfold appC
    simp only []
    rw [h]
    simp only []
    rw [if_pos hl]
  constructor
  · rintro ⟨a, S', e2, q⟩
    rw [e] at e2
    cases e2
    exact q
  · exact fun q => ⟨_, _, e, q⟩
theorem w_star {Q : List Vl → Sto → Prop} : wp (aStar f fs ρ) S Q ↔ wp (f ρ) S fun x S => wp (seqOf x) S fun ds S => wp (fs ρ) S fun ys S => Q (ds.map Vl.d ++ ys) S := by
  unfold aStar
  simp only [wp_bnd, wp_pur]
theorem w_seqT {ds : List D} {Q : List D → Sto → Prop} : wp (seqOf (.d (.tup ds))) S Q ↔ Q ds S := wp_pur
theorem w_seqL {ds : List D} {Q : List D → Sto → Prop} : wp (seqOf (.d (.lst ds))) S Q ↔ Q ds S := wp_pur
theorem w_minD : wp (eMinD fs gs ρ) S Q ↔ wp (fs ρ) S fun xs S => wp (gs ρ) S fun ys S => wp (bMinD xs ys) S Q := by
  unfold eMinD
  simp only [wp_bnd]
theorem w_minDL {ns : List Int} {d : D} : wp (bMinD [.d (.lst (ns.map D.int))] [.d d]) S Q ↔ Q (.d (minOr ns d)) S := by
  have e : bMinD [.d (.lst (ns.map D.int))] [.d d] = opt (intsOf (ns.map D.int)) fun ns => pur (.d (minOr ns d)) := rfl
  rw [e, intsOf_map]
  exact wp_pur
theorem w_minDC {n : Nat} {ns : List Int} {d : D} (h : S[n]? = some (.lst (ns.map D.int))) : wp (bMinD [.c n] [.d d]) S Q ↔ Q (.d (minOr ns d)) S := by
  show wp (bnd (getC n) _) S Q ↔ _
  rw [wp_bnd]
  constructor
  · rintro ⟨a, S', e, q⟩
    rw [getC_at h] at e
    cases e
    replace q : wp (opt (intsOf (ns.map D.int)) fun ns => pur (.d (minOr ns d))) S Q := q
    rw [intsOf_map] at q
    exact wp_pur.mp q
  · intro q
    refine wp_getC h ?_
    show wp (opt (intsOf (ns.map D.int)) fun ns => pur (.d (minOr ns d))) S Q
    rw [intsOf_map]
    exact wp_pur.mpr q
end
end Dz

/-! Dz28: steps of cells, slices, tuples. -/
namespace Dz
open PySem L2
/-! ### x is True, x is False -/
def cIsX (a b : Vl) : M Vl := match a, b with
  | .d (.bl x), .d (.bl y) => pur (.d (.bl (decide (x = y))))
  | a, b => cIs a b
theorem om_isX {X : Cx} : OpM X Er (compareOp .Is) cIsX := fun pins s σ H x y v u Q I rx ry ⟨F, m, G, S, a, b, w, ra, rb, z⟩ => by
  have other : cIs a b S = cIsX a b S → wpAny (model X.prog X.w) X.A (compareOp .Is v u) (EP X pins σ Q) X.xe s := fun e => om_is pins s σ H x y v u Q I rx ry ⟨F, m, G, S, a, b, w, ra, rb, by rw [e]; exact z⟩
  cases a with
  | c n => exact other rfl
  | d a =>
    cases a with
    | bl p =>
      cases b with
      | c n => exact other rfl
      | d b =>
        cases b with
        | bl q =>
          cases ra
          cases rb
          exact op_isBl pins s σ H _ _ v u Q I rx ry ⟨p, q, rfl, rfl, res_ok (A := rV X.K) (a := .d (.bl (decide (p = q)))) (b := V.bl (decide (p = q))) w (Rep.bl _) z⟩
        | _ => exact other rfl
    | _ => exact other rfl
theorem w_isBB {p q : Bool} {S : Sto} {Q : Vl → Sto → Prop} : wp (cIsX (.d (.bl p)) (.d (.bl q))) S Q ↔ Q (.d (.bl (decide (p = q)))) S := wp_pur
theorem w_isX {x : D} {S : Sto} {Q : Vl → Sto → Prop} : wp (cIsX (.d x) (.d .non)) S Q ↔ Q (.d (.bl (isNon x))) S := by
  cases x <;> exact wp_pur
section
variable {S : Sto} {n : Nat} {xs : List D} {Q : Vl → Sto → Prop}
theorem w_getC {Q : List D → Sto → Prop} (h : S[n]? = some (.lst xs)) : wp (getC n) S Q ↔ Q xs S := by
  constructor
  · rintro ⟨a, S', e, q⟩
    rw [getC_at h] at e
    cases e
    exact q
  · exact fun q => wp_getC h q
theorem w_lenC (h : S[n]? = some (.lst xs)) : wp (bLen [.c n]) S Q ↔ Q (.d (.int xs.length)) S := by
  show wp (bnd (getC n) fun ds => pur (.d (.int ds.length))) S Q ↔ _
  rw [wp_bnd, w_getC h, wp_pur]
theorem w_slC {lo hi : Option Int} (h : S[n]? = some (.lst xs)) : wp (sl (.c n) lo hi) S Q ↔ Q (.d (.lst (cut xs lo hi))) S := by
  show wp (bnd (getC n) fun ds => pur (.d (.lst (cut ds lo hi)))) S Q ↔ _
  rw [wp_bnd, w_getC h, wp_pur]
theorem cut_take {α : Type} (xs : List α) {k : Int} (h : 0 ≤ k) : cut xs none (some k) = xs.take k.toNat := by
  unfold cut HT.sIx
  simp only [List.drop_zero, Nat.sub_zero]
  by_cases hk : k.toNat ≤ xs.length
  · congr 1
    split <;> omega
  · rw [List.take_of_length_le (l := xs) (i := k.toNat) (by omega), List.take_of_length_le]
    split <;> omega
theorem w_ixT {ds : List D} {i : Int} {d : D} (h0 : 0 ≤ i) (h : ds[i.toNat]? = some d) : wp (gIx (.d (.tup ds)) (.d (.int i))) S Q ↔ Q (.d d) S := by
  have hl : i.toNat < ds.length := (List.getElem?_eq_some_iff.mp h).1
  show wp (opt (atI ds i) fun x => pur (.d x)) S Q ↔ _
  rw [atI_nn h0 (by omega), h]
  exact wp_pur
end
/-- over the first ints, a cell grows -/
theorem forL_cell {i n : Nat} {s : Env → M Out} {I : Env → Prop} {g : Int → D} {S : Sto} {Q : Out → Sto → Prop} : ∀ (l : List Int) (xs : List D) (ρ : Env), n = S.length → I ρ → (∀ x ∈ l, ∀ (ys : List D) ρ, I ρ → ys.length ≤ xs.length + l.length → wp (s (ρ.set i (some (.d (.int x))))) (S ++ [.lst ys]) fun o S' => ∃ ρ2, o = .nx ρ2 ∧ I ρ2 ∧ S' = S ++ [.lst (ys ++ [g x])]) →
    (∀ ρ, I ρ → Q (.nx ρ) (S ++ [.lst (xs ++ l.map g)])) → wp (forL (.one i) s (l.map D.int) ρ) (S ++ [.lst xs]) Q
  | [], xs, ρ, _, hI, _, hq => by
    have := hq ρ hI
    rw [List.map_nil, List.append_nil] at this
    exact wp_pur.mpr this
  | x :: l, xs, ρ, hn, hI, h, hq => by
    rw [List.map_cons]
    unfold forL
    show wp (bnd (s (ρ.set i (some (.d (.int x))))) _) _ Q
    refine wp_bnd.mpr (wp_mono (h x List.mem_cons_self xs ρ hI (by omega)) ?_)
    rintro o S1 ⟨ρ2, rfl, hI2, rfl⟩
    refine forL_cell l (xs ++ [g x]) ρ2 hn hI2 (fun y hy ys ρ hI hl => h y (List.mem_cons_of_mem _ hy) ys ρ hI (by rw [List.length_append, List.length_singleton] at hl; rw [List.length_cons]; omega)) fun ρ hI => ?_
    have := hq ρ hI
    rw [List.map_cons] at this
    rw [List.append_assoc]
    exact this
end Dz

/-! Dz29: sorted(set(xs)) of a list of ints. -/
namespace Dz
open PySem PySem.Spec PyProof.Rows L2
/-- an empty set's object -/
abbrev so0 (w : World) : Obj := { cls := .type "set", dict := none, data := .set #[] 0 (.fresh 0 0 (!w.params.followText "set-order")) }
section
variable {P : Program} {w : World} {A : Around} {E : Value → Shared → Prop} {s : Shared}
/-- what stands behind set(xs): a new set object of the items -/
def NewSet (w : World) (s : Shared) (ns : List Int) (h' : Heap) (c : Nat) : Prop := SetR w h' s.heap.objs.size (fun j => decide (j ∈ ns)) c ∧ c ≤ ns.length ∧ ∀ b o, s.heap.get? b = some o → h'.get? b = some o
/-- s, an empty set laid behind all -/
abbrev laid0 (w : World) (s : Shared) : Shared := { s with heap := s.heap.push (so0 w) }
/-- the items of a list of ints, by index -/
theorem item_at {its : Array Value} {ns : List Int} (hit : IntsAre its.toList ns) (i : Nat) (v : Value) (hv : its[i]? = some v) : ∃ k t, ns[i]? = some k ∧ v = .int k t := by
  have hlen : its.size = ns.length := by rw [← hit.length, Array.length_toList]
  have hi : i < ns.length := hlen ▸ (Array.getElem?_eq_some_iff.mp hv).1
  obtain ⟨t, e⟩ := IntsAre.int_at hit i v (by rw [Array.getElem?_toList]; exact hv)
  rw [List.getD_eq_getElem?_getD, List.getElem?_eq_getElem hi] at e
  exact ⟨_, t, List.getElem?_eq_getElem hi, e⟩
/-- set.__init__(the empty set, xs) -/
theorem fill_set {A : Around} {l : Addr} {its : Array Value} {ns : List Int} (hh : A.handled = none) (hl : s.heap.IsList l its) (hit : IntsAre its.toList ns) (hb : ns.length + 1 < scanBound) {Q : Value → Shared → Prop} {E : Value → Shared → Prop}
    (h : ∀ h' tk c, NewSet w s ns h' c → Q .none { s with heap := h', toks := tk }) : codeAny (model P w) A (.call (.builtin "set.__init__") ⟨[.ref s.heap.objs.size, .ref l], []⟩) (wants Q E) (laid0 w s) := by
  have gS : (s.heap.push (so0 w)).get? s.heap.objs.size = some (so0 w) := Heap.get?_push_size _ rfl
  refine codeAny_call_builtin F.called_set.init.plain F.entry_set_init (check_set_init_1 (show Shared.TypeIs (laid0 w s) (.ref s.heap.objs.size) "set" from ⟨_, gS, rfl⟩) ?_)
  obtain ⟨⟨oc, od, odt, osl⟩, el, cl, nl, dl⟩ := hl
  simp only at cl dl
  subst cl dl
  have ll : l < s.heap.objs.size := Heap.lt_size el
  have gl : (s.heap.push (so0 w)).get? l = some { cls := .type "list", dict := od, data := .seq its nl, slots := osl } := Heap.get?_push_of_some _ el
  have il : (s.heap.push (so0 w)).IsList l its := ⟨_, gl, rfl, nl, rfl⟩
  have n1 := F.sub_list_set
  have n2 := F.sub_list_frozenset
  have n3 : (Value.type "list" == Value.type "dict") = false := by decide
  have size1 : (s.heap.push (so0 w)).objs.size = s.heap.objs.size + 1 := Heap.size_push ..
  have hlen : its.size = ns.length := by rw [← hit.length, Array.length_toList]
  have apart : s.heap.objs.size ∉ [(s.heap.push (so0 w)).objs.size, l] := by
    rw [size1]
    simp only [List.mem_cons, List.not_mem_nil, or_false]
    exact fun z => z.elim (fun z => Nat.ne_of_lt (Nat.lt_succ_self _) z) fun z => Nat.ne_of_gt ll z
  unfold Builtin.«set.__init__» noKeywords
  unfold Builtin.Frozenset.updateFrom
  generalize hp : pyIter = PI
  wp_walk
  subst hp
  refine wpAny_pyIter_list il (wpAny_bind (wpAny_runValue ?_))
  have lI : l ≠ (s.heap.push (so0 w)).objs.size := size1 ▸ Nat.ne_of_lt (Nat.lt_succ_of_lt ll)
  have calm2 : A.in1.in1.handled = none := by simp [hh]
  refine set_update_ints ((Walks.list calm2 _ l lI its).toS) s.heap.objs.size apart ns hlen hb (item_at hit) (its.size - 0) 0 _ (by omega) (Nat.zero_le _) ⟨⟨_, Heap.get?_push_size _ rfl, rfl, rfl⟩, il.push _⟩ ⟨0, Nat.le_refl 0, setR_new_at (Heap.get?_push_of_some _ gS)⟩ fun s2 c hm hc hS => ?_
  rw [hlen] at hc
  rw [same_but (s := s) hm.gens hm.drawn hm.os]
  refine wpAny_pure (wpAny_pure (h _ _ c ⟨hS, hc, fun b o e => hm.heap b o (fun hbm => ?_) (Heap.get?_push_of_some _ (Heap.get?_push_of_some _ e))⟩))
  have lb : b < s.heap.objs.size := Heap.lt_size e
  simp only [List.mem_cons, List.not_mem_nil, or_false, size1] at hbm
  exact hbm.elim (fun z => Nat.ne_of_lt lb z) fun z => Nat.ne_of_lt (Nat.lt_succ_of_lt lb) z
/-- set(xs) -/
theorem set_listI {l : Addr} {its : Array Value} (ns : List Int) {Q : Value → Shared → Prop} (hh : A.handled = none) (hl : s.heap.IsList l its) (hit : IntsAre its.toList ns) (hb : ns.length + 1 < scanBound)
    (h : ∀ (h' : Heap) (tk c : Nat), NewSet w s ns h' c → Q (.ref s.heap.objs.size) { s with heap := h', toks := tk }) : wpAny (model P w) A (call (.type "set") [.ref l]) Q E s := by
  -- the object first, then its filling
  have laid : codeAny (model P w) A.in1 (.call (.builtin "set.__new__") ⟨[.type "set", .ref l], []⟩) (wants (fun u s1 => u = .ref s.heap.objs.size ∧ s1 = laid0 w s) E) s := code_set_led1 (.ref l) ⟨rfl, rfl⟩
  have filled : codeAny (model P w) A.in1 (.call (.builtin "set.__init__") ⟨[.ref s.heap.objs.size, .ref l], []⟩) (wants (fun v s2 => v = .none ∧ ∃ h' tk c, s2 = { s with heap := h', toks := tk } ∧ NewSet w s ns h' c) E) (laid0 w s) :=
    fill_set (by simp [hh]) hl hit hb fun h' tk c z => ⟨rfl, h', tk, c, rfl, z⟩
  obtain ⟨_, _, mro⟩ := F.called_set.mro
  have a1 := F.called_set.made
  have a2 := F.called_set.sub
  have a3 := F.called_set.notType
  have a4 := F.called_set.canCreate
  have a5 := F.typeCall_set_1 (.ref l)
  refine wpAny_call (codeAny_of_tree (show wpAny _ _ (callAny (.type "set") ⟨[.ref l], []⟩) _ _ s from wpAny_pure ⟨Code.quiet_builtin _ (by decide +kernel), codeAny_builtin F.entry_type_call ?_⟩))
  have plain := Around.under_plain (A := A) (weight_type_call_type "set" [.ref l] []) rfl
  rw [plain]
  repeat (any_goals (first | with_reducible assumption | wp_step))
  refine codeAny_mono laid fun r s1 hr => ?_
  match r, hr with
  | .error _, hr => exact hr
  | .ok .next, hr => exact hr.elim
  | .ok .brk, hr => exact hr.elim
  | .ok .cont, hr => exact hr.elim
  | .ok (.ret u), ⟨eu, es⟩ =>
    subst eu es
    have isSet : Shared.TypeIs (laid0 w s) (.ref s.heap.objs.size) "set" := ⟨_, Heap.get?_push_size _ rfl, rfl⟩
    have b1 := F.called_set.init.lookup
    have b2 := F.called_set.init.bind (.ref s.heap.objs.size)
    repeat (any_goals (first | with_reducible assumption | wp_step))
    refine codeAny_mono filled fun r s2 hr => ?_
    match r, hr with
    | .error _, hr => exact hr
    | .ok .next, hr => exact hr.elim
    | .ok .brk, hr => exact hr.elim
    | .ok .cont, hr => exact hr.elim
    | .ok (.ret v), ⟨ev, h', tk, c, e2, z⟩ =>
      subst ev e2
      repeat (any_goals (first | with_reducible assumption | wp_step))
      exact h h' tk c z
end
/-! ### sorted(a set) of any size -/
/-- at p: the list of the members of S, in order -/
def Listed (h : Heap) (p : Addr) (S : Int → Bool) (n : Nat) : Prop := ∃ (out : Array Value) (c : Nat) (ns : List Int), h.get? p = some (seqObj "list" out c) ∧ IntsAre out.toList ns ∧ ns.Pairwise (· < ·) ∧ (∀ k, k ∈ ns ↔ S k = true) ∧ ns.length = n
section
open SrtO
variable {P : Program} {w : World} {A : Around} {E : Value → Shared → Prop} {s : Shared} {a : Addr}
theorem sorted_setN {S : Int → Bool} {n : Nat} {Q : Value → Shared → Prop} (R : SetR w s.heap a S n) (hh : A.handled = none) (hn : n < 4096)
    (hQ : ∀ s' p, (∀ b o, s.heap.get? b = some o → s'.heap.get? b = some o) → s'.gens = s.gens → s'.os = s.os → s.heap.objs.size ≤ p → Listed s'.heap p S n → Q (.ref p) s') : wpAny (model P w) A (call (.builtin "sorted") [.ref a]) Q E s := by
  rcases R with ⟨ob, es, ep, tab, at_, exact_, dat, good, nodup, mem, bound, fits, count, ris, led⟩
  refine Calls.call_function_entry kind_sorted plain_sorted entry_sorted (args_sorted1 _) (show wpAny _ _ (Builtin.«sorted» _) _ _ _ from ?_)
  unfold Builtin.«sorted»
  refine wpAny_bind (m := checkCount "sorted" 1 1 _) (wpAny_pure (wpAny_bind (collect_set (A := A.in1) hh ⟨ob, at_, exact_.1, dat⟩ fits bound ris led fun s1 vs kept far eg eo perm => ?_)))
  -- the collected values, as ints
  have len : vs.length = n := by
    rw [perm.length_eq, List.length_map, Array.length_toList, count]
  have small : vs.length ≤ sizeLine := by
    rw [len, sizeLine_eq]
    omega
  have nums : IntsAre vs (vs.map Builtin.Re.reRawOf) := ints_of vs fun v hv =>
    let ⟨e, he, q⟩ := List.mem_map.mp (perm.mem_iff.mp hv)
    let ⟨k, tk, h1, _⟩ := good e he
    ⟨k, tk, q ▸ h1⟩
  have keys : (vs.map Builtin.Re.reRawOf).Perm (es.toList.map keyOf) := (perm.map Builtin.Re.reRawOf).trans (.of_eq (by rw [List.map_map]; rfl))
  refine wpAny_bind (wpAny_newList ?_ small)
  have new : (s1.heap.push (seqObj "list" vs.toArray 0)).get? s1.heap.objs.size = some (seqObj "list" vs.toArray 0) := Heap.get?_push_size _ rfl
  refine wpAny_bind (wpAny_holding (wpAny_call_entry slot_list_sort ⟨_, new, rfl⟩ entry_list_sort (list_sort_ord swo_int new small (ints_sortable nums) fun out srt stb => ⟨_, rfl, wpAny_pure ⟨_, rfl, ?_⟩⟩) (args_list_sort _)))
  obtain ⟨o1, o2, o3⟩ := ints_out nums srt stb
  obtain ⟨c, hc⟩ := sortedHeap_at (vs := vs) (out := out.toArray) new
  have all := o2.trans keys
  refine hQ _ s1.heap.objs.size (fun b o e => ?_) eg eo far ⟨out.toArray, c, out.map iv, hc, by simpa using o1, lt_of_le_nodup _ o3 (all.nodup_iff.mpr nodup), fun k => all.mem_iff.trans (mem k).symm, ?_⟩
  · have lt := Heap.lt_size (kept b o e)
    exact (sortedHeap_old (Nat.ne_of_lt lt) (by rw [size_push']; exact Nat.lt_succ_of_lt lt)).trans (Heap.get?_push_of_some _ (kept b o e))
  · rw [all.length_eq, List.length_map, Array.length_toList, count]
end
end Dz

/-! Dz30: sorted(set(xs)) by data. -/
namespace Dz
open PySem PySem.Spec PyProof.Rows L2
/-- without doubles, ascending -/
def dd : List Int → List Int
  | [] => []
  | x :: l => if x ∈ dd l then dd l else x :: dd l
theorem mem_dd {x : Int} : ∀ {l : List Int}, x ∈ dd l ↔ x ∈ l
  | [] => Iff.rfl
  | y :: l => by
    unfold dd
    rw [List.mem_cons]
    by_cases h : y ∈ dd l
    · rw [if_pos h, mem_dd (l := l)]
      constructor
      · exact .inr
      · rintro (rfl | z)
        · exact (mem_dd (l := l)).mp h
        · exact z
    · rw [if_neg h, List.mem_cons, mem_dd (l := l)]
theorem nodup_dd : ∀ l : List Int, (dd l).Nodup
  | [] => List.nodup_nil
  | y :: l => by
    unfold dd
    by_cases h : y ∈ dd l
    · rw [if_pos h]; exact nodup_dd l
    · rw [if_neg h]; exact List.nodup_cons.mpr ⟨h, nodup_dd l⟩
theorem len_dd : ∀ l : List Int, (dd l).length ≤ l.length
  | [] => Nat.le_refl 0
  | y :: l => by
    have := len_dd l
    unfold dd
    split
    · rw [List.length_cons]; omega
    · rw [List.length_cons, List.length_cons]; omega
def ss (l : List Int) : List Int := srt (dd l)
theorem ss_asc (l : List Int) : (ss l).Pairwise (· < ·) := Lim.srt_asc (nodup_dd l)
theorem mem_ss {l : List Int} {x : Int} : x ∈ ss l ↔ x ∈ l := Lim.mem_srt.trans mem_dd
/-- the ints of a list, data or a cell -/
def intsL (x : Vl) : M (List Int) := bnd (seqOf x) fun ds => match x with
  | .d (.tup _) => stuck
  | _ => opt (intsOf ds) fun ns => pur ns
theorem intsL_err {x : Vl} {S S' : Sto} {e : Exn} (h : intsL x S = .err e S') : False := by
  unfold intsL bnd at h
  cases q : seqOf x S with
  | err => exact seqOf_err q
  | no => rw [q] at h; cases h
  | ok ds S2 =>
    rw [q] at h
    simp only [] at h
    split at h
    · cases h
    · cases q2 : intsOf ds with
      | none => rw [q2] at h; cases h
      | some ns => rw [q2] at h; cases h
theorem intsL_rep {K : Frag} {F G H : Hp} {m : List Addr} {S S' : Sto} {x : Vl} {v : V} {ns : List Int} (w : Wd K F m G S H) (r : RepV K F m x v) (h : intsL x S = .ok ns S') : S' = S ∧ ∃ a, v = .ref a ∧ SqL K H a (ns.map V.int) := by
  unfold intsL bnd at h
  cases q : seqOf x S with
  | err => rw [q] at h; cases h
  | no => rw [q] at h; cases h
  | ok ds S2 =>
    rw [q] at h
    by_cases ht : ∃ ds, x = .d (.tup ds)
    · obtain ⟨ts, rfl⟩ := ht
      cases h
    · obtain ⟨rfl, a, vs, rfl, hv, rs⟩ := seqOf_l w r (fun ds e => ht ⟨ds, e⟩) q
      have h2 : opt (intsOf ds) (fun ns => pur ns) S2 = .ok ns S' := by
        simp only [] at h
        split at h
        · exact absurd ⟨_, rfl⟩ ht
        · exact h
      cases qi : intsOf ds with
      | none => rw [qi] at h2; cases h2
      | some ms =>
        rw [qi] at h2
        cases h2
        have e := intsOf_eq qi
        subst e
        have e2 := reps_ints_eq rs
        subst e2
        exact ⟨rfl, a, rfl, hv⟩
def nSS (f : Env → M Vl) : Env → M (List D) := fun ρ => bnd (f ρ) fun x => bnd (intsL x) fun ns => if ns.length < 4000 then pur ((ss ns).map D.int) else stuck
section
variable {X : Cx} {a : Expr} {f : Env → M Vl} {p p2 q pos : Pos}
theorem mn_sortedSet (hc : X.calm = true) (hg : Gl X "sorted") (hm : X.mg "sorted" = none) (hg2 : Gl X "set") (hm2 : X.mg "set" = none) (ha : ME X Er a f)
    (na : starEach [a] X.env = (false, eval a X.env) :: starEach [] X.env := by rfl) : MN X Er (.Call (.Name "sorted" p) [.Call (.Name "set" p2) [a] [] q] [] pos) (nSS f) := by
  refine ⟨fun pins s σ H Q I h => ?_⟩
  obtain ⟨F, m, G, S, ρ, w, r, z⟩ := h
  refine wpAny_Call_Name_kw (ld_blt I hg hm (u := .builtin "sorted") (by decide +kernel) ?_)
  refine PyProof.Rows.callWith_builtin1 (PyProof.Rows.args_cons ?_ rfl) rfl rfl
  refine wpAny_Call_Name_kw (ld_blt I hg2 hm2 PyProof.Rows.boot_set ?_)
  have run : wpAny (model X.prog X.w) X.A (eval a X.env) (EP X pins σ fun v H1 => ∃ F1 m1 S1 a1, Ext F F1 m m1 ∧ Wd X.K F1 m1 G S1 H1 ∧ RepV X.K F1 m1 a1 v ∧ ∃ ns S2, intsL a1 S1 = .ok ns S2 ∧ ns.length < 4000 ∧ ∀ (F' : Hp) (m' : List Addr) (H' : Hp) (p : Addr) (us : List V), Ext F1 F' m1 m' → Wd X.K F' m' (upd G p (.lst us)) S2 H' → G p = none → Reps X.K F' ((ss ns).map D.int) us → Q (.ref p) H') X.xe s := by
    refine ha.run pins s σ H _ I ⟨F, m, G, S, ρ, w, r, ?_⟩
    unfold nSS bnd at z
    cases q : f ρ S with
    | err => rw [q] at z; exact z
    | no => rw [q] at z; exact z
    | ok x S1 =>
      rw [q] at z
      intro F1 m1 H1 v e1 w1 ra
      simp only [] at z
      cases q2 : intsL x S1 with
      | err => exact (intsL_err q2).elim
      | no => rw [q2] at z; exact z.elim
      | ok ns S2 =>
        rw [q2] at z
        simp only [] at z
        by_cases hl : ns.length < 4000
        · rw [if_pos hl] at z
          exact ⟨F1, m1, S1, x, e1, w1, ra, ns, S2, q2, hl, fun F' m' H' p us e => z F' m' H' p us (e1.trans e)⟩
        · rw [if_neg hl] at z; exact z.elim
  refine PyProof.Rows.callWith_type1 (PyProof.Rows.args_cons (thn run fun v s1 ⟨x, H1, I1, r1, F1, m1, S1, a1, e1, w1, ra, ns, S2, qi, hl, z1⟩ => PyProof.Rows.args_nil ?_) na) na rfl
  obtain ⟨rfl, b, rfl, hL⟩ := intsL_rep w1 ra qi
  cases r1
  obtain ⟨its, rv, pl, hz⟩ := I1.list hL
  refine set_listI ns (I1.ok.hd hc) pl.isList (by simpa using rv.ints) (by unfold scanBound; omega) fun h' tk c ⟨R1, hc1, k⟩ => ?_
  refine PyProof.Rows.args_nil ?_
  have I2 : Inv X pins σ H1 { s1 with heap := h', toks := tk } := I1.kept k
  refine sorted_setN (s := { s1 with heap := h', toks := tk }) R1 (I1.ok.hd hc) (by omega) fun s' p' k' g o hp ⟨out, c', ns', hgt, hi, hs, hmm, hln⟩ => ?_
  have en : ns' = ss ns := Lim.asc_ext hs (ss_asc ns) fun x => by rw [hmm, mem_ss, decide_eq_true_eq]
  subst en
  have hlen : ((ss ns).map V.int).length ≤ sizeLine := by rw [List.length_map, hln, sizeLine_eq]; omega
  have hn : H1 p' = none := I2.hok.fresh hp
  have es : s' = { ({ s1 with heap := h', toks := tk } : Shared) with heap := s'.heap, gens := s'.gens, drawn := s'.drawn, toks := s'.toks } := by
    obtain ⟨a1, a2, a3, a4, a5⟩ := s'
    simp only at o ⊢
    rw [o]
  rw [es]
  refine ⟨.ref p', upd H1 p' (.lst ((ss ns).map V.int)), I2.call (ch := []) (Un.laid k' hp hn) (I2.hok.laid k' hp ⟨hlen, out.toList, c', vals_of_ints hi, hgt⟩) (by rw [g]; exact I2.bare) (fun _ z => nomatch z), rfl, ?_⟩
  exact z1 F1 m1 _ p' _ (Ext.refl _ _) (w1.push hn _) (w1.gfresh hn) (reps_ints _ _ _)
end
end Dz

/-! Dz31: str(x) by an own __str__, f-strings, extend, == [] and join of cells. -/
namespace Dz
open PySem PySem.Spec PyProof.Rows L2
section
variable {X : Cx} {c : Str} {φ : List Vl → M Vl} {k : Nat} {f : Addr}
/-! ### str(x) -/
def tStrX (c : Str) (φ : List Vl → M Vl) (g : List Vl → M Vl) (xs : List Vl) : M Vl := match xs with
  | [.d (.ins c' fs)] => if c' = c then bnd (noE (φ [.d (.ins c' fs)])) isS else stuck
  | xs => g xs
theorem cm_strX {g : List Vl → M Vl} (hb : CallM X Er (.type "str") g) (hs : DunC X.K c "__str__" f) (G : FnG X.prog X.w X.K X.mg X.base (CX X.prog X.w) k 1 f (spM X.K 1 φ)) (hr : Rm (k + 2) X.A) : CallM X Er (.type "str") (tStrX c φ g) := fun pins s σ H vs us Q I rx ⟨F, m, Gh, S, xs, w, ra, z⟩ => by
  have other : g xs S = tStrX c φ g xs S → wpAny (model X.prog X.w) X.A (call (.type "str") us) (EP X pins σ Q) X.xe s := fun e => hb pins s σ H vs us Q I rx ⟨F, m, Gh, S, xs, w, ra, by rw [e]; exact z⟩
  cases xs with
  | nil => exact other rfl
  | cons x xs =>
    cases xs with
    | cons y ys => cases x with
      | c n => exact other rfl
      | d x => cases x <;> exact other rfl
    | nil =>
      cases x with
      | c n => exact other rfl
      | d x =>
        cases x with
        | ins c' fs =>
          unfold tStrX at z
          simp only [] at z
          by_cases hc : c' = c
          · subst hc
            rw [if_pos rfl] at z
            have z := res_bnd (A := rV X.K) z
            cases ra with
            | cons r1 r2 =>
            cases r2
            cases r1 with
            | ins ha rs =>
            rw [Vals.ref1 rx]
            obtain ⟨ox, od, J⟩ := inst_of I (w.sub _ _ ha)
            refine PySem.W.kso_call hr.in1.in1.room.units0 I.kIn J hs.at_ hs.fn ?_
            refine wpAny_mono (run_dun (vs := [V.ref _]) G hr.in1.in1 I.env0.in1.in1 I (.cons rfl .nil) rfl w (.cons (x := .d (.ins _ _)) (Rep.ins ha rs) .nil) z) (fun r s' h => ?_) fun _ _ h => h
            obtain ⟨v1, H1, I1, r1, F1, m1, S1, a1, e1, w1, ra1, q1⟩ := h
            unfold isS at q1
            split at q1
            · rename_i t
              cases ra1
              obtain ⟨tk, rfl⟩ := r1
              exact ⟨.str t, H1, I1, ⟨tk, rfl⟩, res_ok (A := rV X.K) (a := .d (.str t)) (b := V.str t) w1 (Rep.str t) q1⟩
            · exact q1.elim
          · rw [if_neg hc] at z; exact z.elim
        | _ => exact other rfl
/-! ### f"..": each part a text, or a value by itself -/
def fmt (x : Vl) : M Vl := match x with
  | .d (.str y) => if y.length ≤ 100000 then pur (.d (.str y)) else stuck
  | .d (.int i) => if i.natAbs.log2 < 1920 then pur (.d (.str (toString i))) else stuck
  | _ => stuck
def eFmt (f : Env → M Vl) : Env → M Vl := fun ρ => bnd (f ρ) fmt
theorem me_fmt {e : Expr} {f : Env → M Vl} {pos : Pos} (he : ME X Er e f) : ME X Er (.FormattedValue e (-1) none pos) (eFmt f) := PE.imp (pe_fmt he) fun σ H Q ⟨F, m, G, S, ρ, w, r, z⟩ => by
  refine rd_mono (rd_bnd (A := rV X.K) w r z) fun x H1 ⟨F1, m1, S1, a1, e1, w1, r1, ra, q1⟩ => ?_
  unfold fmt at q1
  split at q1
  · split at q1
    · rename_i y hl
      cases ra
      exact .inl ⟨y, rfl, sz5 hl, res_ok (A := rV X.K) (a := .d (.str y)) (b := V.str y) w1 (Rep.str y) q1⟩
    · exact q1.elim
  · split at q1
    · rename_i i hl
      cases ra
      exact .inr ⟨i, rfl, hl, res_ok (A := rV X.K) (a := .d (.str (toString i))) (b := V.str (toString i)) w1 (Rep.str _) q1⟩
    · exact q1.elim
  · exact q1.elim
/-- the parts behind what is written already -/
def js : List (Env → M Vl) → Str → Env → M Vl
  | [], acc, _ => pur (.d (.str acc))
  | f :: fs, acc, ρ => bnd (f ρ) fun x => match x with
    | .d (.str y) => if (acc ++ y).length ≤ 100000 then js fs (acc ++ y) ρ else stuck
    | _ => stuck
def eJs (fs : List (Env → M Vl)) : Env → M Vl := js fs Str.empty
inductive MJ (X : Cx) (Er : ErT) : List Expr → List (Env → M Vl) → Prop where
  | nil : MJ X Er [] []
  | cons {e : Expr} {f : Env → M Vl} {es : List Expr} {fs : List (Env → M Vl)} (h : ME X Er e f) (r : MJ X Er es fs) : MJ X Er (e :: es) (f :: fs)
theorem MJ.pj {es : List Expr} {fs : List (Env → M Vl)} (h : MJ X Er es fs) : PJ X es (fs.map fun f => tE X.K Er f) := by
  induction h with
  | nil => exact .nil
  | cons h _ ih => exact .cons h ih
theorem js_of {σ : L2.St} {Q : VK} : ∀ (fs : List (Env → M Vl)) (acc : Str) (H : Hp), tE X.K Er (js fs acc) σ H Q → tJs (fs.map fun f => tE X.K Er f) acc σ H fun out H1 => Q (.str out) H1
  | [], acc, H, ⟨F, m, G, S, ρ, w, r, z⟩ => res_ok (A := rV X.K) (a := .d (.str acc)) (b := V.str acc) w (Rep.str acc) z
  | f :: fs, acc, H, ⟨F, m, G, S, ρ, w, r, z⟩ => by
    refine rd_mono (rd_bnd (A := rV X.K) w r z) fun x H1 ⟨F1, m1, S1, a1, e1, w1, r1, ra, q1⟩ => ?_
    split at q1
    · rename_i y
      cases ra
      split at q1
      · rename_i hl
        exact ⟨y, rfl, sz5 hl, js_of fs (acc ++ y) H1 ⟨F1, m1, G, S1, ρ, w1, r1, q1⟩⟩
      · exact q1.elim
    · exact q1.elim
theorem me_js {v1 v2 : Expr} {rest : List Expr} {fs : List (Env → M Vl)} {pos : Pos} (h : MJ X Er (v1 :: v2 :: rest) fs) : ME X Er (.JoinedStr (v1 :: v2 :: rest) pos) (eJs fs) := PE.imp (pe_joined h.pj) fun σ H Q h => js_of fs Str.empty H h
/-! ### xs.extend(ys), xs a cell, ys a list of data -/
def extC (o v : Vl) : M Vl := fun S => match o, v with
  | .c n, .d (.lst ys) => match S[n]? with
    | some (.lst xs) => if xs.length + ys.length ≤ 100000 then .ok (.d .non) (S.set n (.lst (xs ++ ys))) else .no
    | _ => .no
  | _, _ => .no
def eExt (f g : Env → M Vl) : Env → M Vl := fun ρ => bnd (f ρ) fun o => bnd (isCl o) fun _ => bnd (g ρ) fun v => extC o v
theorem me_extend {o e : Expr} {f g : Env → M Vl} {apos cpos : Pos} (ho : ME X Er o f) (he : ME X Er e g)
    (hbase : attributeBase o "extend" X.env (eval o X.env) = eval o X.env := by rfl)
    (hfew : ((backTo cpos (starEach [e] X.env)).all (fun x => !x.1) && (backToKw cpos (keywordEach [] X.env)).all (fun x => x.1.isSome)
      && decide ([e].length + ([] : List Keyword).length + (if ([] : List Keyword).isEmpty then 0 else 1) < 30)) = true := by rfl)
    (hline : (apos.endLine == cpos.line) = true := by rfl) (hs : starEach [e] X.env = (false, eval e X.env) :: starEach [] X.env := by rfl) (hplain : (backTo cpos (starEach [] X.env)).any (·.1) = false := by rfl) :
    ME X Er (.Call (.Attribute o "extend" apos) [e] [] cpos) (eExt f g) :=
  PE.imp (pe_bm PySem.F.plainAttrs_list PySem.F.slot_list_extend PySem.F.type_list_extend mt_extend ho (pa_cons he pa_nil hs) hbase hfew hline hs hplain) fun σ H Q ⟨F, m, G, S, ρ, w, r, z⟩ => by
  refine rd_mono (rd_bnd (A := rV X.K) w r z) fun ov H1 ⟨F1, m1, S1, a1, e1, w1, r1, ra, q1⟩ => ?_
  obtain ⟨n, a, xs, rfl, hm, rfl, hx, q1⟩ := res_isCl w1 ra q1
  refine ⟨.inl ⟨rfl, _, SqL.of hx⟩, ?_⟩
  refine rd_mono (rd_bnd (A := rV X.K) w1 r1 q1) fun v H2 ⟨F2, m2, S2, a2, e2, w2, r2, rb, q2⟩ => ?_
  have hm2 := e2.at hm
  unfold extC at q2
  split at q2
  · rename_i k ys he
    cases he
    split at q2
    · rename_i zs hz
      obtain ⟨oo, ho, rr⟩ := w2.cells n a _ hm2 hz
      cases rr with
      | lst rs =>
        split at q2
        · rename_i hl
          cases rb with
          | lst hb rs2 =>
            refine ⟨a, _, _, _, rfl, rfl, ho, w2.sub _ _ hb, by rw [← rs.length, ← rs2.length]; exact sz5 hl, ?_⟩
            exact q2 F2 m2 _ _ (Ext.refl _ _) (w2.write hm2 (.lst (rs.append rs2))) .non
        · exact q2.elim
    · exact q2.elim
  · exact q2.elim
/-! ### a cell == data -/
def cEqC (g : Vl → Vl → M Vl) (a b : Vl) : M Vl := match a, b with
  | .c n, .d y => bnd (getC n) fun xs => opt (eqD (.lst xs) y) fun k => pur (.d (.bl k))
  | a, b => g a b
theorem om_eqC {g : Vl → Vl → M Vl} (hu : X.A.units + 64 < cLine) (hb : OpM X Er (compareOp .Eq) g) : OpM X Er (compareOp .Eq) (cEqC g) := fun pins s σ H x y v u Q I rx ry ⟨F, m, G, S, a, b, w, ra, rb, z⟩ => by
  have other : g a b S = cEqC g a b S → wpAny (model X.prog X.w) X.A (compareOp .Eq v u) (EP X pins σ Q) X.xe s := fun e => hb pins s σ H x y v u Q I rx ry ⟨F, m, G, S, a, b, w, ra, rb, by rw [e]; exact z⟩
  cases a with
  | d a => exact other rfl
  | c n =>
    cases b with
    | c k => exact other rfl
    | d b =>
      have z : res X.K Er (rV X.K) F m G (bnd (getC n) (fun xs => opt (eqD (.lst xs) b) fun k => pur (.d (.bl k))) S) Q := z
      obtain ⟨a, xs, vs, rfl, hm, hS, ho, r, z⟩ := res_getC w ra z
      obtain ⟨k, hk, z2⟩ := res_opt z
      unfold eqD at hk
      split at hk
      · rename_i p q h1 h2
        split at hk
        · rename_i hs
          rw [Bool.and_eq_true] at hs
          cases hk
          have d1 : Dp X.K H (.ref a) p := by
            unfold pyOf at h1
            split at h1
            · rename_i ps e
              cases h1
              exact .lst (SqL.of ho) (pyOfs_dp w.sub r e)
            · cases h1
          exact op_eqD hu pins s σ H _ _ v u Q I rx ry ⟨p, q, d1, pyOf_dp w.sub rb h2, hs.1, hs.2, res_ok (A := rV X.K) (a := .d (.bl _)) (b := V.bl _) w (Rep.bl _) z2⟩
        · cases hk
      · cases hk
/-! ### join of a cell -/
def mJoinC (a b : Vl) : M Vl := match b with
  | .c n => bnd (getC n) fun xs => mJoin a (.d (.lst xs))
  | b => mJoin a b
def eJoinC (f h : Env → M Vl) : Env → M Vl := fun ρ => bnd (f ρ) fun a => bnd (isS a) fun a => bnd (h ρ) fun b => mJoinC a b
theorem me_joinC {o e : Expr} {f h : Env → M Vl} {apos pos : Pos} (ho : ME X Er o f) (he : ME X Er e h) (hs : starEach [e] X.env = [(false, eval e X.env)] := by rfl) (hbase : attributeBase o "join" X.env (eval o X.env) = eval o X.env := by rfl) (hline : (apos.endLine == pos.line) = true := by rfl) :
    ME X Er (.Call (.Attribute o "join" apos) [e] [] pos) (eJoinC f h) := PE.imp (pe_join ho he hs hbase hline) fun σ H Q ⟨F, m, G, S, ρ, w, r, q⟩ => by
  refine rd_mono (rd_bnd (A := rV X.K) w r q) fun x H1 ⟨F1, m1, S1, a1, e1, w1, r1, ra, q1⟩ => ?_
  obtain ⟨s, rfl, rfl, q1⟩ := isS_of ra q1
  refine ⟨⟨s, rfl⟩, rd_mono (rd_bnd (A := rV X.K) w1 r1 q1) fun y H2 ⟨F2, m2, S2, a2, e2, w2, r2, rb, q2⟩ => ?_⟩
  cases a2 with
  | d b => exact mJoin_of w2 (RepV.mono e2 ra) rb q2
  | c n =>
    have q2 : res X.K Er (rV X.K) F2 m2 G (bnd (getC n) (fun xs => mJoin (.d (.str s)) (.d (.lst xs))) S2) Q := q2
    obtain ⟨a, xs, vs, rfl, hm, hS, ho, rr, z⟩ := res_getC w2 rb q2
    have z : res X.K Er (rV X.K) F2 m2 G (opt (strsOf xs) (fun ys => if (ys.map (·.length)).sum + ys.length * s.length ≤ 100000 then pur (.d (.str (Txt.join s ys))) else stuck) S2) Q := z
    obtain ⟨ys, hy, z2⟩ := res_opt z
    split at z2
    · rename_i hl
      have e := strs_rep rr hy
      subst e
      exact ⟨s, a, ys, rfl, rfl, .inl (SqL.of ho), by omega, res_ok (A := rV X.K) (a := .d (.str _)) (b := V.str _) w2 (Rep.str _) z2⟩
    · exact z2.elim
end
section
variable {S : Sto} {ρ : Env} {f g : Env → M Vl} {Q : Vl → Sto → Prop} {n : Nat} {xs ys : List D}
theorem tStrX_ins {c : Str} {φ h : List Vl → M Vl} {fs : List (Str × D)} : tStrX c φ h [.d (.ins c fs)] = bnd (noE (φ [.d (.ins c fs)])) isS := by
  show (if c = c then _ else _) = _
  rw [if_pos rfl]
theorem w_fmt : wp (eFmt f ρ) S Q ↔ wp (f ρ) S fun x S => wp (fmt x) S Q := wp_bnd
theorem w_fmtI {i : Int} (h : i.natAbs.log2 < 1920) : wp (fmt (.d (.int i))) S Q ↔ Q (.d (.str (toString i))) S := by
  show wp (if _ then _ else _) S Q ↔ _
  rw [if_pos h]
  exact wp_pur
theorem w_fmtS {y : Str} (h : y.length ≤ 100000) : wp (fmt (.d (.str y))) S Q ↔ Q (.d (.str y)) S := by
  show wp (if _ then _ else _) S Q ↔ _
  rw [if_pos h]
  exact wp_pur
theorem w_eJs {fs : List (Env → M Vl)} : wp (eJs fs ρ) S Q ↔ wp (js fs Str.empty ρ) S Q := Iff.rfl
theorem w_js0 {acc : Str} : wp (js [] acc ρ) S Q ↔ Q (.d (.str acc)) S := wp_pur
def jk (fs : List (Env → M Vl)) (acc : Str) (ρ : Env) (x : Vl) : M Vl := match x with
    | .d (.str y) => if (acc ++ y).length ≤ 100000 then js fs (acc ++ y) ρ else stuck
    | _ => stuck
theorem w_js {fs : List (Env → M Vl)} {acc : Str} : wp (js (f :: fs) acc ρ) S Q ↔ wp (f ρ) S fun x S => wp (jk fs acc ρ x) S Q := wp_bnd
theorem w_jk {fs : List (Env → M Vl)} {acc y : Str} (h : (acc ++ y).length ≤ 100000) : wp (jk fs acc ρ (.d (.str y))) S Q ↔ wp (js fs (acc ++ y) ρ) S Q := by
  show wp (if _ then _ else _) S Q ↔ _
  rw [if_pos h]
theorem w_ext : wp (eExt f g ρ) S Q ↔ wp (f ρ) S fun o S => wp (isCl o) S fun _ S => wp (g ρ) S fun v S => wp (extC o v) S Q := by
  unfold eExt
  simp only [wp_bnd]
theorem w_extC (h : S[n]? = some (.lst xs)) (hl : xs.length + ys.length ≤ 100000) : wp (extC (.c n) (.d (.lst ys))) S Q ↔ Q (.d .non) (S.set n (.lst (xs ++ ys))) := by
  have e : extC (.c n) (.d (.lst ys)) S = .ok (.d .non) (S.set n (.lst (xs ++ ys))) := by
    unfold extC
    simp only []
    rw [h]
    simp only []
    rw [if_pos hl]
  constructor
  · rintro ⟨a, S', e2, q⟩
    rw [e] at e2
    cases e2
    exact q
  · exact fun q => ⟨_, _, e, q⟩
theorem w_eqC {h : Vl → Vl → M Vl} {y : D} {k : Bool} (hS : S[n]? = some (.lst xs)) (he : eqD (.lst xs) y = some k) : wp (cEqC h (.c n) (.d y)) S Q ↔ Q (.d (.bl k)) S := by
  show wp (bnd (getC n) _) S Q ↔ _
  rw [wp_bnd, w_getC hS, he]
  exact wp_pur
theorem w_joinC : wp (eJoinC f g ρ) S Q ↔ wp (f ρ) S fun a S => wp (isS a) S fun a S => wp (g ρ) S fun b S => wp (mJoinC a b) S Q := by
  unfold eJoinC
  simp only [wp_bnd]
theorem strsOf_map : ∀ l : List Str, strsOf (l.map D.str) = some l
  | [] => rfl
  | x :: l => by
    rw [List.map_cons]
    unfold strsOf
    rw [strsOf_map l]
theorem w_mJoinC {s : Str} {l : List Str} (hS : S[n]? = some (.lst (l.map D.str))) (h : (l.map (·.length)).sum + l.length * s.length ≤ 100000) : wp (mJoinC (.d (.str s)) (.c n)) S Q ↔ Q (.d (.str (Txt.join s l))) S := by
  show wp (bnd (getC n) fun xs => mJoin (.d (.str s)) (.d (.lst xs))) S Q ↔ _
  rw [wp_bnd, w_getC hS]
  show wp (opt (strsOf (l.map D.str)) _) S Q ↔ _
  rw [strsOf_map]
  show wp (if _ then _ else _) S Q ↔ _
  rw [if_pos h]
  exact wp_pur
theorem w_mJoinL {s : Str} {l : List Str} (h : (l.map (·.length)).sum + l.length * s.length ≤ 100000) : wp (mJoin (.d (.str s)) (.d (.lst (l.map D.str)))) S Q ↔ Q (.d (.str (Txt.join s l))) S := by
  show wp (opt (strsOf (l.map D.str)) _) S Q ↔ _
  rw [strsOf_map]
  show wp (if _ then _ else _) S Q ↔ _
  rw [if_pos h]
  exact wp_pur
theorem w_nSS {ns : List Int} {Q : List D → Sto → Prop} (h : f ρ = pur (.d (.lst (ns.map D.int)))) (hl : ns.length < 4000) : wp (nSS f ρ) S Q ↔ Q ((ss ns).map D.int) S := by
  unfold nSS
  rw [h, bnd_ret]
  show wp (bnd (opt (intsOf (ns.map D.int)) fun ns => pur ns) _) S Q ↔ _
  rw [intsOf_map]
  show wp (bnd (pur ns) _) S Q ↔ _
  rw [bnd_ret, if_pos hl]
  exact wp_pur
end
end Dz

/-! Dz32: exceptions: what leaves a def's body; raise. -/
namespace Dz
open PySem PySem.Spec PyProof.Rows L2
theorem erOk_def {P : Program} {w : World} {K : Frag} {mg : Str → Option Value} {base : Heap} {N : List Str} {qual : Str} {scope : Scope} {f : Addr} {cdv : Value} {A : Around} {outer : List PySem.Env} {s : Shared} {H : Hp} {E : XK} :
    ErOk (cxOf (CX P w) P w K mg base N qual scope f cdv A outer s H E) (erE K E) E := ⟨takes_of rfl rfl rfl rfl, fun _ _ _ h => h⟩
/-! ### raise C("..") -/
abbrev tailVE : List Value := [.type "ValueError", .type "Exception", .type "BaseException", .type "object"]
/-- a class over ValueError without an own __init__ -/
structure MsgX (K : Frag) (c : Str) : Prop where
  q : PySem.W.excIn K (He.ga K c) tailVE "ValueError.__new__" = true
  kp : PySem.W.keepIn K (.ref (He.ga K c)) = true
  ex : PySem.W.subIn K (.ref (He.ga K c)) (.type "BaseException") = some true
  ty : PySem.W.typeIn K (.ref (He.ga K c)) = some (.type "type")
def sRz (c : Str) : Env → M Out := fun _ S => .err (.mk c []) S
theorem ms_rz {X : Cx} {Er : ErT} {E : XK} {c msg : Str} {j : Nat} {p p2 p3 pos : Pos} (hc : X.calm = true) (M : MsgX X.K c) (gC : X.mg c = some (.ref (He.ga X.K c))) (eo : ErOk X Er E) (hg : Gl X c) (hdb : (c == ("__debug__" : Str)) = false := by decide) :
    MS X Er (.Raise (some (.Call (.Name c p) [.Constant (.str msg) j p2] [] p3)) none pos) (sRz c) :=
  PS.imp (ps_raise hc eo.tk (pmk_own F.excBase_ValueError M.q gC M.kp (raises_own M.ex M.ty) hg hdb)) fun D σ H ⟨F, m, G, S, ρ, w, r, z⟩ => eo.imp _ F H (z F m H (Ext.refl _ _) w) _ _ ⟨rfl, .inl ⟨rfl, rfl⟩⟩
/-! ### steps to an error -/
def wpe {α : Type} (f : M α) (S : Sto) (E : Exn → Sto → Prop) : Prop := ∃ x S', f S = .err x S' ∧ E x S'
section
variable {α β : Type} {S : Sto} {E : Exn → Sto → Prop} {ρ : Env}
theorem wpe_here {f : M α} {g : α → M β} (h : wpe f S E) : wpe (bnd f g) S E := by
  obtain ⟨x, S', e, q⟩ := h
  exact ⟨x, S', by unfold bnd; rw [e], q⟩
theorem wpe_then {f : M α} {g : α → M β} (h : wp f S fun a S' => wpe (g a) S' E) : wpe (bnd f g) S E := by
  obtain ⟨a, S', e, q⟩ := h
  obtain ⟨x, S2, e2, q2⟩ := q
  exact ⟨x, S2, by unfold bnd; rw [e]; exact e2, q2⟩
theorem e_rz {c : Str} (h : E (.mk c []) S) : wpe (sRz c ρ) S E := ⟨_, _, rfl, h⟩
theorem e_seq0 {s t : Env → M Out} (h : wpe (s ρ) S E) : wpe (sSeq s t ρ) S E := wpe_here h
theorem e_seq {s t : Env → M Out} (h : wp (s ρ) S fun o S' => match o with | .nx ρ1 => wpe (t ρ1) S' E | _ => False) : wpe (sSeq s t ρ) S E := wpe_then (wp_mono h fun o S' q => by
  cases o with
  | nx ρ1 => exact q
  | _ => exact q.elim)
theorem e_if {p : Env → M Bool} {s t : Env → M Out} (h : wp (p ρ) S fun k S' => wpe (if k = true then s ρ else t ρ) S' E) : wpe (sIf p s t ρ) S E := wpe_then (wp_mono h fun k S' q => by cases k <;> exact q)
theorem e_ret {f : Env → M Vl} (h : wpe (f ρ) S E) : wpe (sRet f ρ) S E := wpe_here h
theorem e_set {i : Nat} {f : Env → M Vl} (h : wpe (f ρ) S E) : wpe (sSet i f ρ) S E := wpe_here h
theorem e_drop {f : Env → M Vl} (h : wpe (f ρ) S E) : wpe (sDrop f ρ) S E := wpe_here h
theorem e_call {φ : List Vl → M Vl} {fs : Env → M (List Vl)} (h : wp (fs ρ) S fun xs S' => wpe (φ xs) S' E) : wpe (eCall φ fs ρ) S E := wpe_then h
theorem e_fn {N : Nat} {s : Env → M Out} {xs : List Vl} (h : wpe (s (startE N xs)) S fun x S' => E x (S'.take S.length)) : wpe (fnM N s xs) S E := by
  obtain ⟨x, S', e, q⟩ := h
  exact ⟨x, _, by unfold fnM; rw [e], q⟩
theorem e_mk {c : Str} {φ : List Vl → M Vl} {fs : Env → M (List Vl)} (h : wp (fs ρ) S fun xs S1 => wpe (φ (.c S1.length :: xs)) (S1 ++ [.ins c []]) fun x S' => E x (S'.take S1.length)) : wpe (eMk c φ fs ρ) S E := wpe_then (wp_mono h fun xs S1 ⟨x, S', e, q⟩ => ⟨x, _, by unfold mkI; rw [e], q⟩)
end
end Dz

/-! Dz33: try .. except C: (no name; the suite looks at no slot and ends with return). -/
namespace Dz
open PySem PySem.Spec PyProof.Rows L2
def sTry (tab : List (Str × Bool)) (n : Nat) (f g : Env → M Out) : Env → M Out := fun ρ S => match f ρ S with
  | .ok o S' => .ok o S'
  | .err (.mk c fs) S' => match tab.lookup c with
    | some true => (match g (List.replicate n none) S' with
      | .ok (.rt v) S2 => .ok (.rt v) S2
      | _ => .no)
    | some false => .err (.mk c fs) S'
    | none => .no
  | .no => .no
/-- which classes a clause takes -/
def TryTab (K : Frag) (h : Value) (tab : List (Str × Bool)) : Prop := ∀ (c : Str) (b : Bool), tab.lookup c = some b → PySem.W.exmOne K (.ref (He.ga K c)) h = some b
/-- a wish for all slots -/
def evW (n : Nat) (W : WX) : XK := fun c d H => ∀ σ : L2.St, σ.length = n → W c d σ H
theorem erOk_tr {X : Cx} {W : WX} {n : Nat} (hn : n = X.N.length) (tk : Takes X W) : ErOk X (erE X.K (evW n W)) (evW n W) :=
  ⟨fun u s' ⟨a, B, sI, pins, σ, H, cls, d, e, I, nb, up, sky, na, os, ag, w⟩ => tk u s' ⟨a, B, sI, pins, σ, H, cls, d, e, I, nb, up, sky, na, os, ag, w σ (by rw [hn]; exact I.len)⟩, fun _ _ _ h => h⟩
theorem repE_none {K : Frag} {F : Hp} {m : List Addr} {n : Nat} {σ : L2.St} (h : σ.length = n) : RepE K F m (List.replicate n none) σ := ⟨by rw [List.length_replicate, h], fun i x q => by
  rw [List.getElem?_replicate] at q
  split at q <;> cases q⟩
theorem ms_try0 {X : Cx} {Er : ErT} {E0 : XK} {x : Str} {c : Value} {body suite : List Stmt} {b₀ : Stmt} {np pos pos' : Pos} {f g : Env → M Out} {tab : List (Str × Bool)} {n : Nat} (hn : n = X.N.length) (hs : X.stack = X.env :: X.outer) (hf : X.env.frame = some X.env.locals) (hc : Names X x c) (ht : TryTab X.K c tab) (eo : ErOk X Er E0)
    (hb : ∀ (pn : List (Addr × Obj)) (xe : Value → Shared → Prop) (E : XK), ErOk (X.tr pn xe) (erE X.K E) E → PassesOwn (model X.prog X.w) X.A X.env xe → MSs (X.tr pn xe) (erE X.K E) body f)
    (hsu : ∀ (a : Addr) (oe : Obj) (pn : List (Addr × Obj)), MSs (X.suite a ((a, oe) :: pn)) er0 (b₀ :: suite) g) :
    MS X Er (.Try body [.ExceptHandler (some (.Name x np)) none (b₀ :: suite) pos'] [] [] pos) (sTry tab n f g) := by
  refine PS.imp (ps_try_only (tb := fun W => tS X.K (erE X.K (evW n W)) f) (ts := fun _ _ _ => tS X.K er0 g) hs hf hc eo.tk (fun W pn xe tk pw => hb pn xe (evW n W) (erOk_tr (X := X.tr pn xe) hn tk) pw) fun a oe _ _ pn _ _ => hsu a oe pn) fun D σ H ⟨F, m, G, S, ρ, w, r, z⟩ => ?_
  refine ⟨F, m, G, S, ρ, w, r, ?_⟩
  unfold sTry at z
  cases q : f ρ S with
  | ok o S' => rw [q] at z; exact z
  | no => rw [q] at z; exact z
  | err e S' =>
    rw [q] at z
    obtain ⟨k, fs⟩ := e
    simp only [] at z
    intro F' m' H' e' w' cls d hx σ' hl
    obtain ⟨rfl, hx2⟩ := id hx
    cases qt : tab.lookup k with
    | none => rw [qt] at z; exact z.elim
    | some b =>
      rw [qt] at z
      refine ⟨b, ht k b qt, fun e a ha => ?_, fun e => ?_⟩
      · subst e
        refine ⟨F', m', G, S', _, w', repE_none hl, ?_⟩
        simp only [] at z
        cases qg : g (List.replicate n none) S' with
        | ok o S2 =>
          rw [qg] at z
          cases o with
          | rt v => exact resS_ext e' z
          | _ => exact z.elim
        | err x S2 => rw [qg] at z; exact z.elim
        | no => rw [qg] at z; exact z.elim
      · subst e
        exact eo.imp _ F' H' (z F' m' H' e' w') _ d hx
end Dz

/-! Dz34: set comprehensions of ints. -/
namespace Dz
open PySem PySem.Spec PyProof.Rows L2 PpSet
/-- the set of ints that grows at D -/
abbrev grown (w : World) (D : Addr) (T : Int → Bool) (n : Nat) (v : Int) : HO := SetO w D (fun j => T j || decide (j = v)) (if T v = true then n else n + 1)
abbrev empS (w : World) (D : Addr) : HO := SetO w D (fun _ => false) 0
/-- one turn: target, tests, element, add -/
def scTurn (w : World) (D : Addr) (g : TG) (tt : TT) (te : TE) (own : List Nat) (σ : L2.St) (Nx : Hp → Prop) (x : V) (H : Hp) : Prop :=
  g x (wipe σ own) H fun σ2 H2 => wipe σ2 own = wipe σ own ∧ tt σ2 H2 fun b H3 => if b = true then te σ2 H3 fun y H4 =>
    ∃ (v : Int) (T : Int → Bool) (n : Nat), y = .int v ∧ H4 D = some (SetO w D T n) ∧ n + 1 < scanBound ∧ Nx (upd H4 D (grown w D T n v)) else Nx H3
def tScI (w : World) (wi : TI) (g : TG) (tt : TT) (te : TE) (own : List Nat) : TE := fun σ H Q => wi σ H fun J H1 => ∀ D, H1 D = none →
  ∃ W : Nat → Nat → Hp → Prop, (∃ k, W 0 k (upd H1 D (empS w D))) ∧ ∀ i k Hc, W i k Hc →
    (J.stop i Hc ∧ Q (.ref D) Hc) ∨ (J.go i Hc ∧ ∃ Nx : Hp → Prop, (∀ H', Nx H' → ∃ k', k' < k ∧ W (i + 1) k' H') ∧ ∀ x H', J.yld i Hc x H' → scTurn w D g tt te own σ Nx x H')
section
variable {X : Cx}
theorem sc_ints {pn : List (Addr × Obj)} {s : Shared} {σ : L2.St} {H : Hp} {Q : VK} {el tg it : Expr} {cs : List Expr} {sc : Scope} {own : List (PySem.Str × Nat)} {ps ps' : Pos} {wi : TI} {g : TG} {tt : TT} {te : TE} {us : Option (Value → Sem Unit)} {Qf : Value → Shared → Prop}
    (cm : X.calm = true) (nd : X.N.Nodup) (I : Inv X pn σ H s) (pi : PI X tg it wi) (bk : BlkOk X.N X.env.scope sc own)
    (kg : ∀ (s : Shared) (H : Hp) (C : Addr) (cl : List (PySem.Str × Addr)) (fp : List Addr), PG (X.blk s H sc (compEnvC sc cl C X.env) fp) tg g)
    (kt : ∀ (s : Shared) (H : Hp) (C : Addr) (cl : List (PySem.Str × Addr)) (fp : List Addr), PTs (X.blk s H sc (compEnvC sc cl C X.env) fp) cs tt)
    (ke : ∀ (s : Shared) (H : Hp) (C : Addr) (cl : List (PySem.Str × Addr)) (fp : List Addr), PE (X.blk s H sc (compEnvC sc cl C X.env) fp) el te)
    (fi : ∀ x, foldedSetIterable it X.env x = pure x) (h : tScI X.w wi g tt te (own.map (·.2)) σ H Q)
    (go : ∀ D C s' mm H', Inv X pn σ H' s' → Q (.ref D) H' → s'.heap.Ns C mm → FpOk X pn H' C → compPost (model X.prog X.w) X.A X.xe us Qf (.ref D) C (.ok .next) s') :
    wpAny (model X.prog X.w) X.A (comprehension (.SetComp el [⟨tg, it, cs, 0⟩] sc ps) sc X.env ps' (newSet (.type "set")) false (eval it X.env) us) Qf X.xe s := by
  have clo : ∀ y ∈ sc.names, y.2 = .free → ∃ c, X.env.cells.lookup y.1 = some c := by
    intro y hy e
    exact (bk.free y hy e).elim (fun k => I.ok.has _ (.inl k)) fun k => I.ok.has _ (.inr k)
  refine wpAny_comprehension_free (use := us) rfl fi (closure_ok clo) bk.kind (fun y hy e => by rw [bk.uniq y hy, e]) (thn (pi.run pn s σ H _ I h) fun xv s1 hx => thn hx fun iv s2 h2 => ?_)
  obtain ⟨ia, fp, tn, J, H2, rfl, I2, T, st2, f2, q⟩ := h2
  refine newSet_ok (newEnv_comp ?_)
  obtain ⟨D, hD⟩ : ∃ D, D = s2.heap.objs.size := ⟨_, rfl⟩
  rw [← hD]
  obtain ⟨W, ⟨k0, w0⟩, turn⟩ := q D (I2.hok.fresh (Nat.le_of_eq hD.symm))
  obtain ⟨s3, e3⟩ : ∃ s3 : Shared, s3 = { s2 with heap := s2.heap.push (so0 X.w) } := ⟨_, rfl⟩
  obtain ⟨H3, eH⟩ : ∃ H3 : Hp, H3 = upd H2 D (empS X.w D) := ⟨_, rfl⟩
  have hp3 : s3.heap = s2.heap.push (so0 X.w) := by rw [e3]
  have I3 : Inv X pn σ H3 s3 := by
    rw [e3, eH]
    refine I2.laid (t' := s2.toks) (fun b o e => Heap.get?_push_of_some _ e) (Nat.le_of_eq hD.symm) ?_
    rw [hD]
    exact setO_new (setR_fresh X.w)
  have small : ∀ b ∈ fp, b < s2.heap.objs.size := fun b hb => (T.obj _ _ st2 b hb).elim fun o z => Heap.lt_size z.1
  have f3 : ∀ b ∈ fp, FpOk X pn H3 b ∧ b < s3.heap.objs.size := fun b hb => by
    have l := small b hb
    refine ⟨⟨?_, (f2 b hb).2⟩, by rw [hp3, Heap.size_push]; exact Nat.lt_succ_of_lt l⟩
    rw [eH, upd_ne (by rw [hD]; exact Nat.ne_of_lt l)]
    exact (f2 b hb).1
  have st3 : tn 0 s3.heap := T.keep _ _ _ st2 fun b _ o e => by rw [hp3]; exact Heap.get?_push_of_some _ e
  have I4 := block_start I3 bk nd f3
  rw [← eH] at w0
  obtain ⟨ce, hce⟩ : ∃ ce, ce = compEnvC sc (cellsFrom (s3.heap.objs.size + 1) sc.names (cloFrom X.env.cells sc.names [])) s3.heap.objs.size X.env := ⟨_, rfl⟩
  have pg := kg s3 H3 s3.heap.objs.size (cellsFrom (s3.heap.objs.size + 1) sc.names (cloFrom X.env.cells sc.names [])) fp
  have pt := kt s3 H3 s3.heap.objs.size (cellsFrom (s3.heap.objs.size + 1) sc.names (cloFrom X.env.cells sc.names [])) fp
  have pe := ke s3 H3 s3.heap.objs.size (cellsFrom (s3.heap.objs.size + 1) sc.names (cloFrom X.env.cells sc.names [])) fp
  rw [← hce] at I4 pg pt pe
  have cL : ce.locals = s3.heap.objs.size := by rw [hce]; rfl
  obtain ⟨s4, e4⟩ : ∃ s4 : Shared, s4 = { s3 with heap := pushCells (s3.heap.push { cls := .type "dict", data := .dict #[] }) sc.names } := ⟨_, rfl⟩
  rw [← e4] at I4
  have st4 : tn 0 s4.heap := T.keep _ _ _ st3 fun b _ o e => by rw [e4]; exact pushCells_keeps _ _ _ _ (Heap.get?_push_of_some _ e)
  have nfp : ∀ b ∈ fp, H3 b = none := fun b hb => (f3 b hb).1.1
  have ours : ∀ {τ : L2.St} {Hx : Hp} {sx : Shared}, Inv (X.blk s3 H3 sc ce fp) [] τ Hx sx → (∀ b ∈ fp, Hx b = none) → ∀ b ∈ fp, FpOk (X.blk s3 H3 sc ce fp) [] Hx b := by
    intro τ Hx sx Ix nx b hb
    refine ⟨nx b hb, (Ix.ok.exf b hb).1, Ix.ok.exfs b hb, .inl hb, (Ix.ok.exf b hb).2, fun p hp => ?_⟩
    exact absurd (show p ∈ ([] : List (Addr × Obj)) ++ [] from hp) (by simp)
  have lp : codeAny (model X.prog X.w) X.A (.compLoop (.SetComp el [⟨tg, it, cs, 0⟩] sc ps) 0 (.ref ia) (.ref D) ce) (compPost (model X.prog X.w) X.A X.xe us Qf (.ref D) s3.heap.objs.size) s4 := by
    refine compLoopS_any (fun k sx => ∃ i Hx, Inv (X.blk s3 H3 sc ce fp) [] (wipe σ (own.map (·.2))) Hx sx ∧ tn i sx.heap ∧ (∀ b ∈ fp, Hx b = none) ∧ W i k Hx) ?_ k0 ⟨0, H3, I4, st4, nfp, w0⟩
    rintro k s5 ⟨i, H5, I5, st5, n5, w5⟩
    rcases turn i k H5 w5 with ⟨stop, qq⟩ | ⟨more, Nx, down, step⟩
    · refine thnF (T.done (X.blk s3 H3 sc ce fp) rfl rfl rfl cm i [] s5 _ H5 (fun _ _ => False) I5 (ours I5 n5) st5 stop) fun r s6 ⟨hr, I6⟩ => ?_
      subst hr
      have back : Inv X pn σ H5 s6 := I3.call' (ch := fp) I6.os I6.base I6.hok I6.bare fun b hb => by
        obtain ⟨_, a1, _, a3, a4, a5⟩ := (f3 b hb).1
        exact ⟨a3, a1, a4, a5⟩
      have nC : H5 s3.heap.objs.size = none := cL ▸ (show H5 ce.locals = none from I6.free)
      obtain ⟨mm, hn, _⟩ := I6.loc
      exact go D s3.heap.objs.size s6 mm H5 back qq (cL ▸ (show s6.heap.Ns ce.locals mm from hn)) (I3.fpOk (Nat.le_refl _) nC)
    · refine thnF (T.item (X.blk s3 H3 sc ce fp) rfl rfl rfl cm i [] s5 _ H5 (fun _ _ => False) I5 (ours I5 n5) st5 more) fun r s6 ⟨u, hr, h6⟩ => ?_
      subst hr
      refine thnF h6 fun _ s7 ⟨x, H7, I7, r7, y7, st7, n7⟩ => ?_
      have J7 := I7.pinned (ours I7 n7) (T.obj _ _ st7)
      refine thnF (pg.run _ s7 _ H7 x u _ J7 r7 (step x H7 y7)) fun _ s8 ⟨σ8, H8, I8, hw8, q8⟩ => ?_
      refine thnF (pt.run _ s8 σ8 H8 _ I8 q8) fun b s9 ⟨H9, I9, q9⟩ => ?_
      have ends : ∀ {sx : Shared} {Hx : Hp}, Inv (X.blk s3 H3 sc ce fp) ([] ++ pinsAt fp s7.heap) σ8 Hx sx → Nx Hx →
          ∃ j, j < k ∧ ∃ i Hy, Inv (X.blk s3 H3 sc ce fp) [] (wipe σ (own.map (·.2))) Hy sx ∧ tn i sx.heap ∧ (∀ b ∈ fp, Hy b = none) ∧ W i j Hy := by
        intro sx Hx Ix nx
        obtain ⟨j, hj, wj⟩ := down Hx nx
        have stays : ∀ b ∈ fp, ∀ o, s7.heap.get? b = some o → sx.heap.get? b = some o ∧ Hx b = none := fun b hb o e => by
          obtain ⟨z1, z2, _⟩ := Ix.pin (b, o) (List.mem_append_right _ (List.mem_append_right _ (mem_pinsAt hb e)))
          exact ⟨z1, z2⟩
        refine ⟨j, hj, i + 1, Hx, (Ix.unpinned (pins := [])).weak (by rw [← hw8, wipe_length]) (fun c v e => ?_), T.keep _ _ _ st7 fun b hb o e => (stays b hb o e).1, fun b hb => ?_, wj⟩
        · rw [← hw8] at e
          exact (wipe_some e).1
        · obtain ⟨o, e, _⟩ := T.obj _ _ st7 b hb
          exact (stays b hb o e).2
      cases b with
      | false => exact ends I9 (by simpa only [Bool.false_eq_true, if_false] using q9)
      | true =>
        rw [if_pos rfl] at q9 ⊢
        refine thnF (pe.run _ s9 σ8 H9 _ I9 q9) fun z s10 ⟨yv, H10, I10, r10, v, T0, n0, ey, hD10, hz10, nx⟩ => ?_
        subst ey
        have add := mt_sadd (X := X.blk s3 H3 sc ce fp) _ s10 σ8 H10 (.ref D) [.int v] (.ref D) [z] (fun _ H' => H' = upd H10 D (grown X.w D T0 n0 v)) I10 rfl (.cons r10 .nil) ⟨D, v, T0, n0, rfl, rfl, hD10, hz10, rfl⟩
        refine thnF add fun _ s11 ⟨_, H11, I11, _, e11⟩ => ?_
        subst e11
        exact ends I11 nx
  subst e4
  subst hce
  subst e3
  exact codeAny_compStart_set lp (T.self X.A 0 _ _ _ st4 lp)
end
end Dz

/-! Dz35: sorted({..}) by data. -/
namespace Dz
open PySem PySem.Spec PyProof.Rows L2 PpSet
/-- a set of ints that has the ints of a list -/
structure InSet (T : Int → Bool) (n : Nat) (ns : List Int) : Prop where
  mem : ∀ j, T j = decide (j ∈ ns)
  few : n ≤ ns.length
theorem InSet.nil : InSet (fun _ => false) 0 [] := ⟨fun j => by simp, Nat.le_refl _⟩
theorem InSet.add {T : Int → Bool} {n : Nat} {ns : List Int} (h : InSet T n ns) (v : Int) : InSet (fun j => T j || decide (j = v)) (if T v = true then n else n + 1) (ns ++ [v]) := by
  refine ⟨fun j => ?_, ?_⟩
  · rw [h.mem]
    simp [Bool.decide_or]
  · have := h.few
    rw [List.length_append]
    split <;> simp <;> omega
/-- the ints that a comprehension gives -/
def lcI (t : Tgt) (p : Env → M Bool) (f : Env → M Vl) (ρ : Env) : List D → M (List Int)
  | [] => pur []
  | d :: ds => bnd (gSet t d ρ) fun ρ1 => bnd (p ρ1) fun b => match b with
    | true => bnd (f ρ1) fun x => match x with
      | .d (.int v) => bnd (lcI t p f ρ ds) fun ys => pur (v :: ys)
      | _ => stuck
    | false => lcI t p f ρ ds
/-- what is still to come: dn is done -/
def RestI (w : World) (K : Frag) (G : Hp) (t : Tgt) (p : Env → M Bool) (f : Env → M Vl) (ρ : Env) (Q : VK) (F : Hp) (m : List Addr) (S : Sto) (dn : List Int) (ds : List D) : Prop := match lcI t p f ρ ds S with
  | .ok rs S' => ∀ (F' : Hp) (m' : List Addr) (H' : Hp) (q : Addr) (T : Int → Bool) (n : Nat), Ext F F' m m' → Wd K F' m' (upd G q (SetO w q T n)) S' H' → G q = none → InSet T n (dn ++ rs) → Q (.ref q) H'
  | _ => False
section
variable {w : World} {K : Frag} {G : Hp} {t : Tgt} {p : Env → M Bool} {f : Env → M Vl} {ρ ρ2 : Env} {Q : VK} {F F1 : Hp} {m m1 : List Addr} {S : Sto} {dn : List Int} {ds : List D} {d : D}
theorem RestI.ext (e : Ext F F1 m m1) (h : RestI w K G t p f ρ Q F m S dn ds) : RestI w K G t p f ρ Q F1 m1 S dn ds := by
  unfold RestI at h ⊢
  cases q : lcI t p f ρ ds S with
  | err => rw [q] at h; exact h
  | no => rw [q] at h; exact h
  | ok rs S' => rw [q] at h; exact fun F' m' H' q T n e' => h F' m' H' q T n (e.trans e')
theorem RestI.dead (h : RestI w K G t p f ρ Q F m S dn (d :: ds)) (q : gSet t d ρ S = .no) : False := by
  unfold RestI lcI bnd at h
  rw [q] at h
  exact h
theorem RestI.step (h : RestI w K G t p f ρ Q F m S dn (d :: ds)) (q : gSet t d ρ S = .ok ρ2 S) : match p ρ2 S with
    | .ok true S2 => (match f ρ2 S2 with
      | .ok (.d (.int y)) S3 => RestI w K G t p f ρ Q F m S3 (dn ++ [y]) ds
      | _ => False)
    | .ok false S2 => RestI w K G t p f ρ Q F m S2 dn ds
    | _ => False := by
  unfold RestI lcI bnd at h
  rw [q] at h
  simp only [] at h
  cases q2 : p ρ2 S with
  | err => rw [q2] at h; exact h
  | no => rw [q2] at h; exact h
  | ok b S2 =>
    rw [q2] at h
    cases b with
    | false => exact h
    | true =>
      simp only [] at h ⊢
      cases q3 : f ρ2 S2 with
      | err => rw [q3] at h; exact h
      | no => rw [q3] at h; exact h
      | ok x S3 =>
        rw [q3] at h
        cases x with
        | c n => exact h
        | d y =>
          cases y with
          | int v =>
            simp only [bnd, pur] at h ⊢
            unfold RestI
            cases q4 : lcI t p f ρ ds S3 with
            | err => rw [q4] at h; exact h
            | no => rw [q4] at h; exact h
            | ok rs S4 =>
              rw [q4] at h
              intro F' m' H' a T n e w' hG rr
              refine h F' m' H' a T n e w' hG ?_
              rw [List.append_assoc] at rr
              exact rr
          | _ => exact h
end
/-- sorted({..}): the ints, ascending, without doubles -/
def nSC (it : Env → M (List D)) (t : Tgt) (p : Env → M Bool) (f : Env → M Vl) (own : List Nat) : Env → M (List D) := fun ρ => bnd (it ρ) fun ds => if ds.length < 4000 then bnd (noE (lcI t p f (wipeE ρ own) ds)) fun ns => pur ((ss ns).map D.int) else stuck
/-- what the set has to be behind the comprehension -/
def tSetI (w : World) (K : Frag) (Er : ErT) (it : Env → M (List D)) (t : Tgt) (p : Env → M Bool) (f : Env → M Vl) (own : List Nat) : TE := fun σ H Q => ∃ F m G S ρ, Wd K F m G S H ∧ RepE K F m ρ σ ∧ match it ρ S with
  | .ok ds S1 => ds.length < 4000 ∧ RestI w K G t p f (wipeE ρ own) Q F m S1 [] ds
  | .err x S' => ∀ (F' : Hp) (m' : List Addr) (H' : Hp), Ext F F' m m' → Wd K F' m' G S' H' → Er x F' H'
  | .no => False
theorem tScI_of {w : World} {K : Frag} {Er : ErT} {it : Env → M (List D)} {t : Tgt} {p : Env → M Bool} {f : Env → M Vl} {own : List Nat} {σ : L2.St} {H : Hp} {Q : VK} (hs : ∀ i ∈ t.slots, i ∈ own) (h : tSetI w K Er it t p f own σ H Q) : tScI w (tI K Er it) (t.tg K) (tT K er0 p) (tE K er0 f) own σ H Q := by
  obtain ⟨F, m, G, S, ρ, wd, r, z⟩ := h
  refine ⟨F, m, G, S, ρ, wd, r, ?_⟩
  cases q : it ρ S with
  | err => rw [q] at z; exact z
  | no => rw [q] at z; exact z
  | ok ds S0 =>
    rw [q] at z
    obtain ⟨hz, z⟩ := z
    intro F0 m0 H0 J e0 w0 wk Dl hD
    have hG : G Dl = none := w0.gfresh hD
    refine ⟨fun i k H1 => k = ds.length - i ∧ i ≤ ds.length ∧ ∃ F1 m1 S1 dn T n, Ext F0 F1 m0 m1 ∧ Wd K F1 m1 (upd G Dl (SetO w Dl T n)) S1 H1 ∧ InSet T n dn ∧ dn.length ≤ i ∧ RestI w K G t p f (wipeE ρ own) Q F1 m1 S1 dn (ds.drop i),
      ⟨ds.length, by simp, Nat.zero_le _, F0, m0, S0, [], _, 0, Ext.refl _ _, w0.push hD _, InSet.nil, Nat.le_refl _, by rw [List.drop_zero]; exact z.ext e0⟩, ?_⟩
    rintro i k H1 ⟨rfl, hi, F1, m1, S1, dn, T, n, e1, w1, ins, hl, z1⟩
    have sub : Same F0 H1 := e1.fro.trans w1.sub
    by_cases hlt : i < ds.length
    · rw [List.drop_eq_getElem_cons hlt] at z1
      refine .inr ⟨wk.go i H1 sub hlt, fun H2 => ∃ F2 m2 S2 dn2 T2 n2, Ext F0 F2 m0 m2 ∧ Wd K F2 m2 (upd G Dl (SetO w Dl T2 n2)) S2 H2 ∧ InSet T2 n2 dn2 ∧ dn2.length ≤ i + 1 ∧ RestI w K G t p f (wipeE ρ own) Q F2 m2 S2 dn2 (ds.drop (i + 1)),
        fun H2 ⟨F2, m2, S2, dn2, T2, n2, e2, w2, r2, l2, z2⟩ => ⟨ds.length - (i + 1), by omega, rfl, hlt, F2, m2, S2, dn2, T2, n2, e2, w2, r2, l2, z2⟩, fun x H' y => ?_⟩
      obtain ⟨F1', e1', w1', rd⟩ := wk.nxt e1 w1 hlt y
      have z1 := RestI.ext e1' z1
      have e1 := e1.trans e1'
      have w1 := w1'
      have rw1 : RepE K F1' m1 (wipeE ρ own) (L2.wipe σ own) := (r.mono (e0.trans e1)).wipe own
      rcases gSet_no (t := t) (d := ds[i]) (ρ := wipeE ρ own) (S := S1) with ⟨ρ2, q1⟩ | q1
      · refine tgt_of w1 rd rw1 q1 fun σ2 r2 hw _ => ⟨(hw own hs).trans (wipe_wipe σ own), ?_⟩
        refine ⟨F1', m1, upd G Dl (SetO w Dl T n), S1, ρ2, w1, r2, ?_⟩
        have z2 := z1.step q1
        cases q2 : p ρ2 S1 with
        | err => rw [q2] at z2; exact z2.elim
        | no => rw [q2] at z2; exact z2.elim
        | ok b S2 =>
          rw [q2] at z2
          intro F2 m2 H2 b' e2 w2 eb
          have eb : b = b' := eb
          subst eb
          cases b with
          | false =>
            simp only [] at z2
            rw [if_neg Bool.false_ne_true]
            exact ⟨F2, m2, S2, dn, T, n, e1.trans e2, w2, ins, by omega, z2.ext e2⟩
          | true =>
            simp only [] at z2
            rw [if_pos rfl]
            refine ⟨F2, m2, upd G Dl (SetO w Dl T n), S2, ρ2, w2, r2.mono e2, ?_⟩
            cases q3 : f ρ2 S2 with
            | err => rw [q3] at z2; exact z2.elim
            | no => rw [q3] at z2; exact z2.elim
            | ok xv S3 =>
              rw [q3] at z2
              cases xv with
              | c n => exact z2.elim
              | d yv =>
                cases yv with
                | int v =>
                  intro F3 m3 H3 u e3 w3 rv
                  cases rv
                  refine ⟨v, T, n, rfl, w3.gsub Dl _ upd_same, by have := ins.few; unfold scanBound; omega, F3, m3, S3, dn ++ [v], _, _, e1.trans (e2.trans e3), ?_, ins.add v, by simp; omega, RestI.ext (e2.trans e3) z2⟩
                  exact (w3.unframe hG).frame upd_same (w3.gF Dl _ upd_same) fun j hj => by
                    have := w3.gm j Dl hj
                    rw [upd_same] at this; cases this
                | _ => exact z2.elim
      · exact (z1.dead q1).elim
    · have ei : i = ds.length := by omega
      subst ei
      rw [List.drop_length] at z1
      refine .inl ⟨wk.stop _ H1 sub (Nat.le_refl _), ?_⟩
      unfold RestI lcI pur at z1
      simp only [List.append_nil] at z1
      exact z1 F1 m1 H1 Dl T n (Ext.refl _ _) w1 hG ins
end Dz

/-! Dz36: sorted({..}). -/
namespace Dz
open PySem PySem.Spec PyProof.Rows L2 PpSet
theorem Wd.slim {K : Frag} {F G H : Hp} {m : List Addr} {S : Sto} {p : Addr} {o : HO} (w : Wd K F m (upd G p o) S H) (hG : G p = none) : Wd K F m G S H where
  sub := w.sub
  gsub := fun b x e => w.gsub b x (by rw [upd_ne (ne_of_none e hG)]; exact e)
  gF := fun b x e => w.gF b x (by rw [upd_ne (ne_of_none e hG)]; exact e)
  gm := fun n a h => by
    have z := w.gm n a h
    by_cases e : a = p
    · rw [e]; exact hG
    · rw [upd_ne e] at z; exact z
  len := w.len
  cells := w.cells
  off := w.off
  inj := w.inj
theorem lcI_len {t : Tgt} {p : Env → M Bool} {f : Env → M Vl} {ρ : Env} : ∀ {ds : List D} {S S2 : Sto} {ns : List Int}, lcI t p f ρ ds S = .ok ns S2 → ns.length ≤ ds.length
  | [], S, S2, ns, h => by cases h; exact Nat.le_refl _
  | d :: ds, S, S2, ns, h => by
    unfold lcI bnd at h
    rw [List.length_cons]
    cases q : gSet t d ρ S with
    | err => rw [q] at h; cases h
    | no => rw [q] at h; cases h
    | ok ρ1 S1 =>
      rw [q] at h
      simp only [] at h
      cases q2 : p ρ1 S1 with
      | err => rw [q2] at h; cases h
      | no => rw [q2] at h; cases h
      | ok b S3 =>
        rw [q2] at h
        cases b with
        | false => exact Nat.le_succ_of_le (lcI_len h)
        | true =>
          simp only [] at h
          cases q3 : f ρ1 S3 with
          | err => rw [q3] at h; cases h
          | no => rw [q3] at h; cases h
          | ok x S4 =>
            rw [q3] at h
            cases x with
            | c n => cases h
            | d y =>
              cases y with
              | int v =>
                simp only [bnd] at h
                cases q4 : lcI t p f ρ ds S4 with
                | err => rw [q4] at h; cases h
                | no => rw [q4] at h; cases h
                | ok rs S5 =>
                  rw [q4] at h
                  cases h
                  rw [List.length_cons]
                  exact Nat.succ_le_succ (lcI_len q4)
              | _ => cases h
section
variable {X : Cx} {Er : ErT} {elt tg iter : Expr} {ifs : List Expr} {scope : Scope} {pos q p0 : Pos} {it : Env → M (List D)} {t : Tgt} {p : Env → M Bool} {f : Env → M Vl}
theorem pe_setI {wi : TI} {g : TG} {tt : TT} {te : TE} (own : List (PySem.Str × Nat)) (cm : X.calm = true) (nd : X.N.Nodup) (pi : PI X tg iter wi) (bk : BlkOk X.N X.env.scope scope own)
    (kg : ∀ (s : Shared) (H : Hp) (C : Addr) (cl : List (PySem.Str × Addr)) (fp : List Addr), PG (X.blk s H scope (compEnvC scope cl C X.env) fp) tg g)
    (kt : ∀ (s : Shared) (H : Hp) (C : Addr) (cl : List (PySem.Str × Addr)) (fp : List Addr), PTs (X.blk s H scope (compEnvC scope cl C X.env) fp) ifs tt)
    (ke : ∀ (s : Shared) (H : Hp) (C : Addr) (cl : List (PySem.Str × Addr)) (fp : List Addr), PE (X.blk s H scope (compEnvC scope cl C X.env) fp) elt te)
    (fi : ∀ x, foldedSetIterable iter X.env x = pure x := by intro _; rfl) : PE X (.SetComp elt [⟨tg, iter, ifs, 0⟩] scope pos) (tScI X.w wi g tt te (own.map (·.2))) := by
  refine ⟨fun pins s σ H Q I h => ?_⟩
  rw [eval_SetComp]
  refine sc_ints cm nd I pi bk kg kt ke fi h fun D C s' mm H' I' qq hn ff => ⟨mm, hn, fun h2 sb => ?_⟩
  obtain ⟨a0, a1, _, a3, a4, a5⟩ := ff
  have J := I'.turned (t' := s'.toks) (h' := h2) (fun b o hb e => (sb.2 b hb).trans e) a0 a1 a3 a4 a5
  exact ⟨.ref D, H', J, rfl, qq⟩
theorem mn_sortedSC (own : List (PySem.Str × Nat)) (hc : X.calm = true) (hg : Gl X "sorted") (hm : X.mg "sorted" = none) (nd : X.N.Nodup) (hi : MI X Er tg iter it) (ok : BlkOk X.N X.env.scope scope own)
    (kg : ∀ (s : Shared) (H : Hp) (C : Addr) (cl : List (Str × Addr)) (fp : List Addr), MG (X.blk s H scope (compEnvC scope cl C X.env) fp) tg t)
    (kt : ∀ (s : Shared) (H : Hp) (C : Addr) (cl : List (Str × Addr)) (fp : List Addr), MTs (X.blk s H scope (compEnvC scope cl C X.env) fp) er0 ifs p)
    (ke : ∀ (s : Shared) (H : Hp) (C : Addr) (cl : List (Str × Addr)) (fp : List Addr), ME (X.blk s H scope (compEnvC scope cl C X.env) fp) er0 elt f)
    (hsl : ∀ i ∈ t.slots, i ∈ own.map (·.2) := by decide) (fi : ∀ x, foldedSetIterable iter X.env x = pure x := by intro _; rfl) :
    MN X Er (.Call (.Name "sorted" p0) [.SetComp elt [⟨tg, iter, ifs, 0⟩] scope q] [] pos) (nSC it t p f (own.map (·.2))) := by
  refine ⟨fun pins s σ H Q I h => ?_⟩
  obtain ⟨F, m, G, S, ρ, w, r, z⟩ := h
  refine wpAny_Call_Name_kw (ld_blt I hg hm (u := .builtin "sorted") (by decide +kernel) ?_)
  refine PyProof.Rows.callWith_builtin1 (PyProof.Rows.args_cons ?_ rfl) rfl rfl
  have rd : tSetI X.w X.K Er it t p f (own.map (·.2)) σ H fun v H1 => ∃ (a : Addr) (F1 : Hp) (m1 : List Addr) (T : Int → Bool) (n : Nat) (ns : List Int) (S1 : Sto), v = .ref a ∧ Ext F F1 m m1 ∧ Wd X.K F1 m1 (upd G a (SetO X.w a T n)) S1 H1 ∧ G a = none ∧ InSet T n ns ∧ ns.length < 4000 ∧
      ∀ (F' : Hp) (m' : List Addr) (H' : Hp) (p : Addr) (us : List V), Ext F F' m m' → Wd X.K F' m' (upd G p (.lst us)) S1 H' → G p = none → Reps X.K F' ((ss ns).map D.int) us → Q (.ref p) H' := by
    refine ⟨F, m, G, S, ρ, w, r, ?_⟩
    unfold nSC bnd at z
    cases e : it ρ S with
    | err => rw [e] at z; exact z
    | no => rw [e] at z; exact z
    | ok ds S1 =>
      rw [e] at z
      simp only [] at z
      by_cases hl : ds.length < 4000
      · rw [if_pos hl] at z
        refine ⟨hl, ?_⟩
        unfold RestI
        unfold noE at z
        cases e2 : lcI t p f (wipeE ρ (own.map (·.2))) ds S1 with
        | err => rw [e2] at z; exact z.elim
        | no => rw [e2] at z; exact z.elim
        | ok ns S2 =>
          rw [e2] at z
          exact fun F' m' H' a T n ex wd hG ins => ⟨a, F', m', T, n, ns, S2, rfl, ex, wd, hG, ins, Nat.lt_of_le_of_lt (lcI_len e2) hl, z⟩
      · rw [if_neg hl] at z; exact z.elim
  refine thn ((pe_setI own hc nd hi ok kg kt ke fi).run pins s σ H _ I (tScI_of hsl rd)) fun u s1 ⟨v, H1, I1, r1, a, F1, m1, T, n, ns, S1, ev, ex, wd, hG, ins, hl, z1⟩ => PyProof.Rows.args_nil ?_
  subst ev
  cases r1
  have hS : H1 a = some (SetO X.w a T n) := wd.gsub a _ upd_same
  have h64 : n < 4000 := Nat.lt_of_le_of_lt ins.few hl
  refine sorted_setN (setO_get I1 hS) (I1.ok.hd hc) (by omega) fun s' p' k' g o hp ⟨out, c', ns', hgt, hi, hs, hmm, hln⟩ => ?_
  have en : ns' = ss ns := Lim.asc_ext hs (ss_asc ns) fun x => by rw [hmm, ins.mem, mem_ss, decide_eq_true_eq]
  subst en
  have hlen : ((ss ns).map V.int).length ≤ sizeLine := by rw [List.length_map, hln, sizeLine_eq]; omega
  have hn : H1 p' = none := I1.hok.fresh hp
  have es : s' = { s1 with heap := s'.heap, gens := s'.gens, drawn := s'.drawn, toks := s'.toks } := by
    obtain ⟨a1, a2, a3, a4, a5⟩ := s'
    simp only at o ⊢
    rw [o]
  rw [es]
  have w1 := wd.slim hG
  refine ⟨.ref p', upd H1 p' (.lst ((ss ns).map V.int)), I1.call (ch := []) (Un.laid k' hp hn) (I1.hok.laid k' hp ⟨hlen, out.toList, c', vals_of_ints hi, hgt⟩) (by rw [g]; exact I1.bare) (fun _ z => nomatch z), rfl, ?_⟩
  exact z1 F1 m1 _ p' _ ex (w1.push hn _) (w1.gfresh hn) (reps_ints _ _ _)
end
end Dz

/-! Dz37: text.split(sep). -/
namespace Dz
open PySem PySem.Spec PyProof.Rows L2
def splV (x y : Vl) : M (List D) := match x, y with
  | .d (.str a), .d (.str b) => if (b.length == 0) = false ∧ a.length + 2 ≤ 100000 then pur ((Txt.split a b).map D.str) else stuck
  | _, _ => stuck
def nSplit (f g : Env → M Vl) : Env → M (List D) := fun ρ => bnd (f ρ) fun x => bnd (isS x) fun x => bnd (g ρ) fun y => splV x y
theorem reps_strs (F : Hp) (K : Frag) : ∀ ns : List Str, Reps K F (ns.map D.str) (ns.map V.str)
  | [] => .nil
  | n :: ns => .cons (.str n) (reps_strs F K ns)
section
variable {X : Cx} {Er : ErT} {o e : Expr} {f g : Env → M Vl} {apos pos : Pos}
theorem mn_split (ho : ME X Er o f) (he : ME X Er e g) (hs : starEach [e] X.env = [(false, eval e X.env)] := by rfl) (hbase : attributeBase o "split" X.env (eval o X.env) = eval o X.env := by rfl) (hline : (apos.endLine == pos.line) = true := by rfl) :
    MN X Er (.Call (.Attribute o "split" apos) [e] [] pos) (nSplit f g) := PE.imp (pe_split ho he hs hbase hline) fun σ H Q ⟨F, m, G, S, ρ, w, r, z⟩ => by
  refine ⟨F, m, G, S, ρ, w, r, ?_⟩
  unfold nSplit bnd at z
  cases q : f ρ S with
  | err => rw [q] at z; exact z
  | no => rw [q] at z; exact z
  | ok x S1 =>
    rw [q] at z
    intro F1 m1 H1 v e1 w1 ra
    simp only [] at z
    by_cases hx : ∃ a, x = .d (.str a)
    · obtain ⟨a, rfl⟩ := hx
      cases ra
      refine ⟨⟨a, rfl⟩, F1, m1, G, S1, ρ, w1, r.mono e1, ?_⟩
      simp only [isS, pur] at z
      cases q2 : g ρ S1 with
      | err => rw [q2] at z; exact fun F' m' H' e => z F' m' H' (e1.trans e)
      | no => rw [q2] at z; exact z
      | ok y S2 =>
        rw [q2] at z
        intro F2 m2 H2 u e2 w2 rb
        simp only [] at z
        by_cases hy : ∃ b, y = .d (.str b)
        · obtain ⟨b, rfl⟩ := hy
          cases rb
          unfold splV at z
          simp only [] at z
          by_cases hc : (b.length == 0) = false ∧ a.length + 2 ≤ 100000
          · rw [if_pos hc] at z
            refine ⟨a, b, rfl, rfl, hc.1, sz5 hc.2, fun p hp => ?_⟩
            exact z F2 m2 _ p _ (e1.trans e2) (w2.push hp _) (w2.gfresh hp) (reps_strs _ _ _)
          · rw [if_neg hc] at z; exact z.elim
        · exfalso
          have hn : splV (.d (.str a)) y S2 = .no := by
            cases y with
            | c n => rfl
            | d y => cases y <;> first | rfl | exact absurd ⟨_, rfl⟩ hy
          rw [hn] at z
          exact z
    · exfalso
      have hn : isS x S1 = .no := by
        unfold isS
        split
        · rename_i a; exact absurd ⟨_, rfl⟩ hx
        · rfl
      rw [hn] at z
      exact z
end
end Dz

/-! Dz38: int(text). -/
namespace Dz
open PySem PySem.Spec PyProof.Rows L2
def tIntS (g : List Vl → M Vl) (xs : List Vl) : M Vl := match xs with
  | [.d (.str x)] => match PySem.intText? x with
    | some n => if x.length ≤ 640 then pur (.d (.int n)) else stuck
    | none => stuck
  | xs => g xs
theorem cm_intS {X : Cx} {Er : ErT} {g : List Vl → M Vl} (hb : CallM X Er (.type "int") g) : CallM X Er (.type "int") (tIntS g) := fun pins s σ H vs us Q I rx ⟨F, m, Gh, S, xs, w, ra, z⟩ => by
  have other : g xs S = tIntS g xs S → wpAny (model X.prog X.w) X.A (call (.type "int") us) (EP X pins σ Q) X.xe s := fun e => hb pins s σ H vs us Q I rx ⟨F, m, Gh, S, xs, w, ra, by rw [e]; exact z⟩
  by_cases hx : ∃ x, xs = [.d (.str x)]
  · obtain ⟨x, rfl⟩ := hx
    cases ra with
    | cons r1 r2 =>
    cases r2
    cases r1
    cases rx with
    | cons v1 v2 =>
    cases v2
    obtain ⟨t, rfl⟩ := v1
    unfold tIntS at z
    simp only [] at z
    cases q : PySem.intText? x with
    | none => rw [q] at z; exact z.elim
    | some n =>
      rw [q] at z
      by_cases hl : x.length ≤ 640
      · simp only [if_pos hl] at z
        refine PySem.W.KIN.call_text q hl ?_
        exact ⟨.int n, H, I.tok _, ⟨_, rfl⟩, res_ok w (Rep.int n) z⟩
      · simp only [if_neg hl] at z; exact z.elim
  · refine other ?_
    unfold tIntS
    split
    · exact absurd ⟨_, rfl⟩ hx
    · rfl
end Dz

/-! Dz39: the head's facts on exceptions. -/
namespace Dz
open PySem PySem.Spec PyProof.Rows L2
def msgB (c : Str) (K : Frag) : Bool := PySem.W.excIn K (He.ga K c) tailVE "ValueError.__new__" && (PySem.W.keepIn K (.ref (He.ga K c)) && (decide (PySem.W.subIn K (.ref (He.ga K c)) (.type "BaseException") = some true) && decide (PySem.W.typeIn K (.ref (He.ga K c)) = some (.type "type"))))
theorem msgX_ok {K : Frag} {c : Str} (z : (Fz.chk (msgB c)).ok K = true) : MsgX K c := by
  obtain ⟨h1, z⟩ := He.ba z
  obtain ⟨h2, z⟩ := He.ba z
  obtain ⟨h3, h4⟩ := He.ba z
  exact ⟨h1, h2, of_decide_eq_true h3, of_decide_eq_true h4⟩
def tryB (h : Str) (tab : List (Str × Bool)) (K : Frag) : Bool := tab.all fun p => decide (PySem.W.exmOne K (.ref (He.ga K p.1)) (.ref (He.ga K h)) = some p.2)
theorem mem_look {c : Str} {b : Bool} : ∀ {l : List (Str × Bool)}, l.lookup c = some b → (c, b) ∈ l
  | [], h => by cases h
  | (k, v) :: l, h => by
    unfold List.lookup at h
    cases q : (c == k) with
    | true =>
      rw [q] at h
      cases h
      rw [eq_of_beq q]
      exact List.mem_cons_self
    | false =>
      rw [q] at h
      exact List.mem_cons_of_mem _ (mem_look h)
theorem tryTab_ok {K : Frag} {h : Str} {tab : List (Str × Bool)} (z : (Fz.chk (tryB h tab)).ok K = true) : TryTab K (.ref (He.ga K h)) tab := fun c b q => of_decide_eq_true (List.all_eq_true.mp (show tab.all _ = true from z) (c, b) (mem_look q))
end Dz

/-! Dz40: xs[::-1]; list(text); in over a list of any data; steps. -/
namespace Dz
open PySem PySem.Spec PyProof.Rows L2
theorem Reps.reverse {K : Frag} {F : Hp} : ∀ {ds : List D} {vs : List V}, Reps K F ds vs → Reps K F ds.reverse vs.reverse
  | _, _, .nil => .nil
  | _, _, .cons r rs => by
    rw [List.reverse_cons, List.reverse_cons]
    exact (Reps.reverse rs).append (.cons r .nil)
def gRev (x : Vl) : M Vl := match x with
  | .d (.lst ds) => pur (.d (.lst ds.reverse))
  | .c n => bnd (getC n) fun ds => pur (.d (.lst ds.reverse))
  | _ => stuck
def eRev (f : Env → M Vl) : Env → M Vl := fun ρ => bnd (f ρ) gRev
section
variable {X : Cx} {Er : ErT} {e : Expr} {f : Env → M Vl}
theorem me_rev {k : Nat} {p1 p2 p3 pos : Pos} (he : ME X Er e f) : ME X Er (.Subscript e (.Slice none none (some (.UnaryOp .USub (.Constant (.int 1) k p1) p2)) p3) pos) (eRev f) :=
  PE.imp (pe_revL he) fun σ H Q ⟨F, m, G, S, ρ, w, r, z⟩ => by
  refine rd_mono (rd_bnd (A := rV X.K) w r z) fun x H1 ⟨F1, m1, S1, a1, e1, w1, r1, ra, q1⟩ => ?_
  unfold gRev at q1
  split at q1
  · cases ra with
    | lst ha rs =>
    refine ⟨_, _, rfl, w1.sub.seq (SqL.of ha), fun p hp => ?_⟩
    exact q1 _ m1 _ _ (Ext.lay (w1.fresh hp)) (w1.lay hp _) (.lst upd_same ((Reps.reverse rs).mono (same_upd (w1.fresh hp))))
  · obtain ⟨a, xs, vs, rfl, hm, hS, ho, rs, z⟩ := res_getC w1 ra q1
    refine ⟨_, _, rfl, SqL.of ho, fun p hp => ?_⟩
    exact z _ m1 _ _ (Ext.lay (w1.fresh hp)) (w1.lay hp _) (.lst upd_same ((Reps.reverse rs).mono (same_upd (w1.fresh hp))))
  · exact q1.elim
/-! ### xs + ys as a new list -/
def catV (x y : Vl) : M (List D) := match x, y with
  | .d (.lst xs), .d (.lst ys) => if xs.length + ys.length ≤ 100000 then pur (xs ++ ys) else stuck
  | _, _ => stuck
def nAdd (f g : Env → M Vl) : Env → M (List D) := fun ρ => bnd (f ρ) fun x => bnd (g ρ) fun y => catV x y
theorem mn_add {a b : Expr} {g : Env → M Vl} {pos : Pos} (ha : ME X Er a f) (hb : ME X Er b g) : MN X Er (.BinOp a .Add b pos) (nAdd f g) := PE.imp (pe_op op_cat ha hb) fun σ H Q ⟨F, m, G, S, ρ, w, r, z⟩ => by
  refine ⟨F, m, G, S, ρ, w, r, ?_⟩
  unfold nAdd bnd at z
  cases q : f ρ S with
  | err => rw [q] at z; exact z
  | no => rw [q] at z; exact z
  | ok x S1 =>
    rw [q] at z
    intro F1 m1 H1 v e1 w1 ra
    simp only [] at z
    refine ⟨F1, m1, G, S1, ρ, w1, r.mono e1, ?_⟩
    cases q2 : g ρ S1 with
    | err => rw [q2] at z; exact fun F' m' H' e => z F' m' H' (e1.trans e)
    | no => rw [q2] at z; exact z
    | ok y S2 =>
      rw [q2] at z
      intro F2 m2 H2 u e2 w2 rb
      simp only [] at z
      have ra := ra.mono e2
      by_cases hx : ∃ xs ys, x = .d (.lst xs) ∧ y = .d (.lst ys)
      · obtain ⟨xs, ys, rfl, rfl⟩ := hx
        unfold catV at z
        simp only [] at z
        cases ra with
        | lst ha r1 =>
        cases rb with
        | lst hb r2 =>
        by_cases hl : xs.length + ys.length ≤ 100000
        · rw [if_pos hl] at z
          refine ⟨_, _, _, _, rfl, rfl, w2.sub _ _ ha, w2.sub _ _ hb, by rw [← r1.length, ← r2.length]; exact sz5 hl, fun p hp => ?_⟩
          exact z F2 m2 _ p _ (e1.trans e2) (w2.push hp _) (w2.gfresh hp) (r1.append r2)
        · rw [if_neg hl] at z; exact z.elim
      · exfalso
        have hn : catV x y S2 = .no := by
          unfold catV
          split
          · exact absurd ⟨_, _, rfl, rfl⟩ hx
          · rfl
        rw [hn] at z
        exact z
/-! ### max of a list -/
def bMaxL : List Vl → M Vl := fun xs => match xs with
  | [.d (.int i), .d (.int j)] => pur (.d (.int (if j > i then j else i)))
  | [.d (.lst ds)] => opt (intsOf ds) fun ns => opt ns.max? fun k => pur (.d (.int k))
  | _ => stuck
theorem max_uniq {ns : List Int} {k m : Int} (h : ns.max? = some k) (h1 : m ∈ ns) (h2 : ∀ y, y ∈ ns → y ≤ m) : m = k := by
  rw [List.max?_eq_some_iff] at h
  exact Int.le_antisymm (h.2 m h1) (h2 k h.1)
theorem cm_maxL (hc : X.calm = true) : CallM X Er (.builtin "max") bMaxL := callM_of ((call_max2 hc).or (cr_max hc)) fun F m G S H xs vs Q w rs z => by
  unfold bMaxL at z
  split at z
  · cases rs with
    | cons r1 r2 =>
    cases r2 with
    | cons r2 r3 =>
    cases r3
    cases r1
    cases r2
    exact .inl ⟨_, _, rfl, res_ok w (.int _) z⟩
  · rename_i ds
    cases rs with
    | cons r1 r2 =>
    cases r2
    cases r1 with
    | lst ha r =>
    cases qi : intsOf ds with
    | none => rw [qi] at z; exact z.elim
    | some ns =>
      rw [qi] at z
      have e := intsOf_eq qi
      subst e
      have e2 := reps_ints_eq r
      subst e2
      cases qm : ns.max? with
      | none => unfold opt at z; simp only [] at z; rw [qm] at z; exact z.elim
      | some k =>
        unfold opt at z; simp only [] at z; rw [qm] at z
        refine .inr ⟨_, ns, rfl, w.sub.seq (SqL.of ha), ?_, fun m h1 h2 => ?_⟩
        · cases ns with
          | nil => cases qm
          | cons n ns => exact Nat.succ_pos _
        · rw [max_uniq qm h1 h2]
          exact res_ok w (.int _) z
  · exact z.elim
/-! ### list(text) -/
def tListS (xs : List Vl) : M (List D) := match xs with
  | [.d (.str x)] => if x.length ≤ 100000 then pur (signs x) else stuck
  | xs => tList xs
theorem vals_signs {x : Str} {acc : Array Value} (h : ItemsOf (SignAt x) acc x.cps.size) : Vals (x.cps.toList.map fun c => V.str ⟨#[c]⟩) acc.toList := by
  refine vals_of_at (by rw [List.length_map, Array.length_toList, Array.length_toList]; exact h.1.symm) fun j y u h1 h2 => ?_
  obtain ⟨c, t, hc, rfl⟩ := h.2 j u (by rw [← Array.getElem?_toList]; exact h2)
  rw [List.getElem?_map, Array.getElem?_toList, hc] at h1
  cases h1
  exact ⟨t, rfl⟩
theorem reps_signs (K : Frag) (F : Hp) : ∀ l : List Nat, Reps K F (l.map fun c => D.str ⟨#[c]⟩) (l.map fun c => V.str ⟨#[c]⟩)
  | [] => .nil
  | c :: l => .cons (.str _) (reps_signs K F l)
theorem cn_listS (hc : X.calm = true) : CallR X (.type "list") (RCN X.K Er tListS) := fun pins s σ H vs us Q I rx ⟨F, m, G, S, xs, w, ra, z⟩ => by
  by_cases hx : ∃ x, xs = [.d (.str x)]
  · obtain ⟨x, rfl⟩ := hx
    cases ra with
    | cons r1 r2 =>
    cases r2
    cases r1
    cases rx with
    | cons v1 v2 =>
    cases v2
    obtain ⟨t, rfl⟩ := v1
    unfold tListS at z
    simp only [] at z
    by_cases hl : x.length ≤ 100000
    · rw [if_pos hl] at z
      have hs : x.cps.size ≤ sizeLine := sz5 hl
      refine call_list_str (hn := hs) (I.ok.hd hc) x t fun h' tk acc' c' k hS hacc => ?_
      have hn : H s.heap.objs.size = none := I.hok.fresh (Nat.le_refl _)
      refine ⟨.ref s.heap.objs.size, upd H s.heap.objs.size (.lst (x.cps.toList.map fun c => V.str ⟨#[c]⟩)), I.laid k (Nat.le_refl _) (show ObjOk X.prog X.w _ _ _ (.lst _) from ⟨?_, acc'.toList, c', vals_signs hacc, ?_⟩), rfl, z F m _ _ _ (Ext.refl _ _) (w.push hn _) (w.gfresh hn) (reps_signs _ _ _)⟩
      · rw [List.length_map, Array.length_toList]; exact hs
      · rw [Array.toArray_toList]; exact hS
    · rw [if_neg hl] at z; exact z.elim
  · have e : tListS xs S = tList xs S := by
      unfold tListS
      split
      · exact absurd ⟨_, rfl⟩ hx
      · rfl
    rw [e] at z
    exact cn_list (Er := Er) pins s σ H vs us Q I rx ⟨F, m, G, S, xs, w, ra, z⟩
/-! ### in over a list or a tuple of any data -/
def cIn4 (a b : Vl) : M Vl := match a, b with
  | .d x, .d (.lst ds) => opt (pyOf x) fun p => opt (pyOfs ds) fun ps => if SeqAt.shaped p && SeqAt.shaped (.list ps) then pur (.d (.bl (ps.any fun z => PyData.eqv z p))) else stuck
  | a, b => cIn3 a b
theorem om_in4 (hu : X.A.units + 65 < cLine) : OpM X Er (compareOp .In) cIn4 := fun pins s σ H x y v u Q I rx ry ⟨F, m, G, S, a, b, w, ra, rb, z⟩ => by
  have other : cIn3 a b S = cIn4 a b S → wpAny (model X.prog X.w) X.A (compareOp .In v u) (EP X pins σ Q) X.xe s := fun e => om_in3 hu pins s σ H x y v u Q I rx ry ⟨F, m, G, S, a, b, w, ra, rb, by rw [e]; exact z⟩
  cases a with
  | c n => exact other rfl
  | d a =>
    cases b with
    | c n => exact other rfl
    | d b =>
      cases b with
      | lst ds =>
        obtain ⟨p, hp, z1⟩ := res_opt (show res X.K Er (rV X.K) F m G (opt (pyOf a) (fun p => opt (pyOfs ds) fun ps => if SeqAt.shaped p && SeqAt.shaped (.list ps) then pur (.d (.bl (ps.any fun z => PyData.eqv z p))) else stuck) S) Q from z)
        obtain ⟨ps, hps, z2⟩ := res_opt z1
        by_cases hs : (SeqAt.shaped p && SeqAt.shaped (.list ps)) = true
        · rw [if_pos hs] at z2
          rw [Bool.and_eq_true] at hs
          have hb : pyOf (.lst ds) = some (.list ps) := by unfold pyOf; rw [hps]
          exact op_inD hu pins s σ H x y v u Q I rx ry ⟨p, ps, pyOf_dp w.sub ra hp, pyOf_dp w.sub rb hb, hs.1, hs.2, res_ok w (.bl _) z2⟩
        · rw [if_neg hs] at z2; exact z2.elim
      | _ => exact other rfl
end
/-! ### steps -/
section
variable {S : Sto} {ρ : Env} {f g : Env → M Vl}
theorem w_nsc {it : Env → M (List D)} {t : Tgt} {p : Env → M Bool} {own : List Nat} {Q : List D → Sto → Prop} : wp (nSC it t p f own ρ) S Q ↔ wp (it ρ) S fun ds S => wp (if ds.length < 4000 then bnd (lcI t p f (wipeE ρ own) ds) fun ns => pur ((ss ns).map D.int) else stuck) S Q := by
  unfold nSC
  rw [wp_bnd]
  have key : ∀ (ds : List D) (S : Sto), wp (if ds.length < 4000 then bnd (noE (lcI t p f (wipeE ρ own) ds)) fun ns => pur ((ss ns).map D.int) else stuck) S Q ↔ wp (if ds.length < 4000 then bnd (lcI t p f (wipeE ρ own) ds) fun ns => pur ((ss ns).map D.int) else stuck) S Q := fun ds S => by
    split
    · rw [wp_bnd, wp_bnd, wp_noE]
    · exact Iff.rfl
  simp only [key]
theorem lcI_map {α : Type} {t : Tgt} {p : Env → M Bool} {f : Env → M Vl} {ρ : Env} {k : α → D} {ρ1 : α → Env} {b : α → Bool} {v : α → Int} : ∀ (l : List α), (∀ a ∈ l, gSet t (k a) ρ = pur (ρ1 a) ∧ p (ρ1 a) = pur (b a) ∧ (b a = true → f (ρ1 a) = pur (.d (.int (v a))))) → lcI t p f ρ (l.map k) = pur ((l.filter b).map v)
  | [], _ => rfl
  | a :: l, h => by
    obtain ⟨h1, h2, h3⟩ := h a List.mem_cons_self
    have ih := lcI_map l fun x hx => h x (List.mem_cons_of_mem _ hx)
    rw [List.map_cons]
    unfold lcI
    rw [h1, bnd_ret, h2, bnd_ret]
    cases hb : b a with
    | true =>
      show bnd (f (ρ1 a)) _ = _
      rw [h3 hb, bnd_ret]
      show bnd (lcI t p f ρ (l.map k)) _ = _
      rw [ih, bnd_ret, List.filter_cons, if_pos hb]
      rfl
    | false =>
      show lcI t p f ρ (l.map k) = _
      rw [ih, List.filter_cons, if_neg (by rw [hb]; decide)]
theorem w_nsplit {Q : List D → Sto → Prop} : wp (nSplit f g ρ) S Q ↔ wp (f ρ) S fun x S => wp (isS x) S fun x S => wp (g ρ) S fun y S => wp (splV x y) S Q := by
  unfold nSplit
  simp only [wp_bnd]
theorem w_splV {a b : Str} {Q : List D → Sto → Prop} (h : (b.length == 0) = false ∧ a.length + 2 ≤ 100000) : wp (splV (.d (.str a)) (.d (.str b))) S Q ↔ Q ((Txt.split a b).map D.str) S := by
  unfold splV
  simp only [if_pos h]
  exact wp_pur
theorem w_nadd {Q : List D → Sto → Prop} : wp (nAdd f g ρ) S Q ↔ wp (f ρ) S fun x S => wp (g ρ) S fun y S => wp (catV x y) S Q := by
  unfold nAdd
  simp only [wp_bnd]
theorem w_catV {xs ys : List D} {Q : List D → Sto → Prop} (h : xs.length + ys.length ≤ 100000) : wp (catV (.d (.lst xs)) (.d (.lst ys))) S Q ↔ Q (xs ++ ys) S := by
  show wp (if _ then _ else _) S Q ↔ _
  rw [if_pos h]
  exact wp_pur
theorem w_maxI {a b : Int} {Q : Vl → Sto → Prop} : wp (bMaxL [.d (.int a), .d (.int b)]) S Q ↔ Q (.d (.int (if b > a then b else a))) S := wp_pur
theorem w_maxL {ns : List Int} {k : Int} {Q : Vl → Sto → Prop} (h : ns.max? = some k) : wp (bMaxL [.d (.lst (ns.map D.int))]) S Q ↔ Q (.d (.int k)) S := by
  show wp (opt (intsOf (ns.map D.int)) fun ns => opt ns.max? fun k => pur (.d (.int k))) S Q ↔ _
  rw [intsOf_map]
  show wp (opt ns.max? fun k => pur (.d (.int k))) S Q ↔ _
  rw [h]
  exact wp_pur
theorem w_rev {Q : Vl → Sto → Prop} : wp (eRev f ρ) S Q ↔ wp (f ρ) S fun x S => wp (gRev x) S Q := wp_bnd
theorem w_gRev {ds : List D} {Q : Vl → Sto → Prop} : wp (gRev (.d (.lst ds))) S Q ↔ Q (.d (.lst ds.reverse)) S := wp_pur
theorem w_listS {x : Str} {Q : List D → Sto → Prop} (h : x.length ≤ 100000) : wp (tListS [.d (.str x)]) S Q ↔ Q (signs x) S := by
  show wp (if _ then _ else _) S Q ↔ _
  rw [if_pos h]
  exact wp_pur
theorem w_intS {x : Str} {n : Int} {g : List Vl → M Vl} {Q : Vl → Sto → Prop} (h : PySem.intText? x = some n) (hl : x.length ≤ 640) : wp (tIntS g [.d (.str x)]) S Q ↔ Q (.d (.int n)) S := by
  unfold tIntS
  simp only [h, if_pos hl]
  exact wp_pur
end
end Dz

/-! Dz41: steps of try, of in, of slices of texts. -/
namespace Dz
open PySem PySem.Spec PyProof.Rows L2
section
variable {S : Sto} {ρ : Env} {f g : Env → M Out} {tab : List (Str × Bool)} {n : Nat} {Q : Out → Sto → Prop}
theorem w_try (h : wp (f ρ) S Q) : wp (sTry tab n f g ρ) S Q := by
  obtain ⟨o, S', e, q⟩ := h
  exact ⟨o, S', by unfold sTry; rw [e], q⟩
theorem w_tryE {c : Str} (ht : tab.lookup c = some true) (h : wpe (f ρ) S fun x S' => (∃ fs, x = .mk c fs) ∧ wp (g (List.replicate n none)) S' fun o S2 => (∃ v, o = .rt v) ∧ Q o S2) : wp (sTry tab n f g ρ) S Q := by
  obtain ⟨x, S', e, ⟨fs, rfl⟩, o, S2, e2, ⟨v, rfl⟩, q⟩ := h
  refine ⟨.rt v, S2, ?_, q⟩
  unfold sTry
  rw [e]
  simp only [ht, e2]
/-- a def raises: the class, the store as before -/
def Errs (φ : List Vl → M Vl) (xs : List Vl) (x : Exn) : Prop := ∀ S, ∃ S', φ xs S = .err x S' ∧ S' = S
theorem wpe_mono {α : Type} {p : M α} {E E' : Exn → Sto → Prop} (h : wpe p S E) (i : ∀ x S', E x S' → E' x S') : wpe p S E' := by
  obtain ⟨x, S', e, q⟩ := h
  exact ⟨x, S', e, i x S' q⟩
theorem errs_of {N : Nat} {s : Env → M Out} {xs : List Vl} {x : Exn} (h : ∀ S, wpe (s (startE N xs)) S fun y S' => y = x ∧ S'.take S.length = S) : Errs (fnM N s) xs x := fun S => by
  obtain ⟨y, S', e, rfl, q⟩ := h S
  exact ⟨_, by unfold fnM; rw [e], q⟩
theorem Errs.wpe {φ : List Vl → M Vl} {xs : List Vl} {x : Exn} (h : Errs φ xs x) {E : Exn → Sto → Prop} (q : E x S) : wpe (φ xs) S E := by
  obtain ⟨S', e, rfl⟩ := h S
  exact ⟨x, _, e, q⟩
theorem mk_errs {c : Str} {φ : List Vl → M Vl} {xs : List Vl} {x : Exn} (h : ∀ S, wpe (φ (.c S.length :: xs)) (S ++ [.ins c []]) fun y S' => y = x ∧ S'.take S.length = S) : Errs (mkI c φ) xs x := fun S => by
  obtain ⟨y, S', e, rfl, q⟩ := h S
  exact ⟨_, by unfold mkI; rw [e], q⟩
theorem wpe_bnd {α β : Type} {p : M α} {k : α → M β} {a : α} {E : Exn → Sto → Prop} (h : p = pur a) (q : wpe (k a) S E) : wpe (bnd p k) S E := by
  rw [h]
  exact q
theorem wpe_ite {α : Type} {c : Prop} [Decidable c] {p q : M α} {E : Exn → Sto → Prop} (h : c) (z : wpe p S E) : wpe (if c then p else q) S E := by rw [if_pos h]; exact z
end
section
variable {S : Sto} {Q : Vl → Sto → Prop}
theorem w_slS {z : Str} {lo hi : Option Int} (h : z.length ≤ 100000) : wp (sl (.d (.str z)) lo hi) S Q ↔ Q (.d (.str (cutS z lo hi))) S := by
  show wp (if _ then _ else _) S Q ↔ _
  rw [if_pos h]
  exact wp_pur
theorem w_in2S {c : Nat} {z : Str} : wp (cIn2 (.d (.str ⟨#[c]⟩)) (.d (.str z))) S Q ↔ Q (.d (.bl (decide (c ∈ z.cps.toList)))) S := by
  rw [← PySem.StrLaws.found_one z c]
  exact wp_pur
theorem w_ni2S {c : Nat} {z : Str} : wp (cNotIn2 (.d (.str ⟨#[c]⟩)) (.d (.str z))) S Q ↔ Q (.d (.bl (!decide (c ∈ z.cps.toList)))) S := by
  rw [← PySem.StrLaws.found_one z c]
  exact wp_pur
theorem upper_len (x : Str) : (Txt.upper x).length ≤ 3 * x.length := PySem.StrLaws.placedRaw_le3 x.cps (fun _ c => Unicode.upperOf c) fun _ c => PySem.StrLaws.upperOf_le3 c
theorem cutS_len (z : Str) (lo hi : Option Int) : (cutS z lo hi).length ≤ z.length := by
  show ((((z.cps.toList.drop _).take _).toArray).size) ≤ z.cps.size
  rw [List.size_toArray, List.length_take, List.length_drop, Array.length_toList]
  omega
end
end Dz

/-! Dz42: a cell + a list: a new list. -/
namespace Dz
open PySem PySem.Spec PyProof.Rows L2
def opAddC (g : Vl → Vl → M Vl) : Vl → Vl → M Vl := fun a b => match a, b with
  | .c n, .d (.lst ys) => bnd (getC n) fun xs => if xs.length + ys.length ≤ 100000 then pur (.d (.lst (xs ++ ys))) else stuck
  | a, b => g a b
theorem om_addC {X : Cx} {g : Vl → Vl → M Vl} (hb : OpM X Er (binaryOp .Add) g) : OpM X Er (binaryOp .Add) (opAddC g) := fun pins s σ H x y v u Q I rx ry ⟨F, m, G, S, a, b, w, ra, rb, z⟩ => by
  have other : g a b S = opAddC g a b S → wpAny (model X.prog X.w) X.A (binaryOp .Add v u) (EP X pins σ Q) X.xe s := fun e => hb pins s σ H x y v u Q I rx ry ⟨F, m, G, S, a, b, w, ra, rb, by rw [e]; exact z⟩
  cases a with
  | d a => exact other rfl
  | c n =>
    cases b with
    | c k => exact other rfl
    | d b =>
      cases b with
      | lst ys =>
        obtain ⟨a, xs, vs, rfl, hm, hS, ho, rs, z⟩ := res_getC w ra z
        cases rb with
        | lst hb r2 =>
        by_cases hl : xs.length + ys.length ≤ 100000
        · rw [if_pos hl] at z
          refine op_cat pins s σ H _ _ v u Q I rx ry ⟨_, _, _, _, rfl, rfl, ho, w.sub _ _ hb, by rw [← rs.length, ← r2.length]; exact sz5 hl, fun p hp => ?_⟩
          exact z _ m _ _ (Ext.lay (w.fresh hp)) (w.lay hp _) (.lst upd_same ((rs.append r2).mono (same_upd (w.fresh hp))))
        · rw [if_neg hl] at z
          exact z.elim
      | _ => exact other rfl
theorem w_addC {S : Sto} {n : Nat} {g : Vl → Vl → M Vl} {xs ys : List D} {Q : Vl → Sto → Prop} (h : S[n]? = some (.lst xs)) (hl : xs.length + ys.length ≤ 100000) : wp (opAddC g (.c n) (.d (.lst ys))) S Q ↔ Q (.d (.lst (xs ++ ys))) S := by
  show wp (bnd (getC n) _) S Q ↔ _
  rw [wp_bnd]
  constructor
  · rintro ⟨a, S', e, q⟩
    rw [getC_at h] at e
    cases e
    rw [if_pos hl] at q
    exact wp_pur.mp q
  · intro q
    refine wp_getC h ?_
    rw [if_pos hl]
    exact wp_pur.mpr q
end Dz

namespace K03
open PySem PySem.Spec PyProof.Rows L2 Dz
/-! ### the text -/
def topS (i : Nat) : Stmt := PySem.Challenge.pw_deepenough_k03_whole_set_algebra.main.body.getD i (.Pass ⟨0, 0, 0, 0⟩)
abbrev c_ANY : D := .tup [.tup [.bl true, .bl true], .tup [.bl true, .bl false], .tup [.bl false, .bl true]]
abbrev c_BOTH : D := .tup [.tup [.bl true, .bl true]]
abbrev c_JUST_ONE : D := .tup [.tup [.bl true, .bl false], .tup [.bl false, .bl true]]
abbrev c_MAX_PERIOD : Int := 2000
abbrev c_ONE_ALONE : D := .tup [.tup [.bl true, .bl false]]
abbrev c_TOP : Int := 10000000000000000000000000000000000000000
abbrev csL : List Str := ["Limits"]
abbrev tabL : Tab := [(.bt "NoneType", .ow "Limits", false), (.bt "bool", .ow "Limits", false), (.bt "int", .ow "Limits", false), (.bt "str", .ow "Limits", false), (.bt "tuple", .ow "Limits", false), (.bt "list", .ow "Limits", false), (.bt "dict", .ow "Limits", false), (.ow "Limits", .ow "Limits", true), (.ow "Limits", .bt "bool", false), (.ow "Limits", .bt "int", false), (.ow "Limits", .bt "tuple", false)]
abbrev tys_Limits : List Ty := [.bt "NoneType", .bt "bool", .bt "int", .bt "str", .bt "tuple", .bt "list", .bt "dict", .ow "Limits"]
abbrev s_is_integer : Stmt := topS 8
abbrev N_is_integer : List Str := ["value"]
theorem sc_is_integer : FnScope N_is_integer ["value"] (defScope s_is_integer) := ⟨rfl, rfl, rfl, by decide +kernel, rfl, by decide +kernel, by decide +kernel⟩
abbrev s_is_below : Stmt := topS 9
abbrev N_is_below : List Str := ["value", "limit"]
theorem sc_is_below : FnScope N_is_below ["value", "limit"] (defScope s_is_below) := ⟨rfl, rfl, rfl, by decide +kernel, rfl, by decide +kernel, by decide +kernel⟩
abbrev s_is_ascending : Stmt := topS 10
abbrev N_is_ascending : List Str := ["items", "one", "other"]
theorem sc_is_ascending : FnScope N_is_ascending ["items"] (defScope s_is_ascending) := ⟨rfl, rfl, rfl, by decide +kernel, rfl, by decide +kernel, by decide +kernel⟩
abbrev s_are_below : Stmt := topS 11
abbrev N_are_below : List Str := ["value", "limit", "one"]
theorem sc_are_below : FnScope N_are_below ["value", "limit"] (defScope s_are_below) := ⟨rfl, rfl, rfl, by decide +kernel, rfl, by decide +kernel, by decide +kernel⟩
abbrev s_has_period : Stmt := topS 19
abbrev N_has_period : List Str := ["rests", "period", "less", "known", "rest"]
theorem sc_has_period : FnScope N_has_period ["rests", "period", "less"] (defScope s_has_period) := ⟨rfl, rfl, rfl, by decide +kernel, rfl, by decide +kernel, by decide +kernel⟩
abbrev s_least_period : Stmt := topS 20
abbrev N_least_period : List Str := ["rests", "period", "less"]
theorem sc_least_period : FnScope N_least_period ["rests", "period"] (defScope s_least_period) := ⟨rfl, rfl, rfl, by decide +kernel, rfl, by decide +kernel, by decide +kernel⟩
abbrev s_least_first : Stmt := topS 21
abbrev N_least_first : List Str := ["few", "first", "period", "rests", "at", "known", "rounds", "number", "rest"]
theorem sc_least_first : FnScope N_least_first ["few", "first", "period", "rests"] (defScope s_least_first) := ⟨rfl, rfl, rfl, by decide +kernel, rfl, by decide +kernel, by decide +kernel⟩
abbrev s_greatest_divisor : Stmt := topS 22
abbrev N_greatest_divisor : List Str := ["one", "other"]
theorem sc_greatest_divisor : FnScope N_greatest_divisor ["one", "other"] (defScope s_greatest_divisor) := ⟨rfl, rfl, rfl, by decide +kernel, rfl, by decide +kernel, by decide +kernel⟩
abbrev s_Limits___init__ : Stmt := inClass (topS 23) 0
abbrev N_Limits___init__ : List Str := ["self", "few", "first", "period", "rests", "rest", "number"]
theorem sc_Limits___init__ : FnScope N_Limits___init__ ["self", "few", "first", "period", "rests"] (defScope s_Limits___init__) := ⟨rfl, rfl, rfl, by decide +kernel, rfl, by decide +kernel, by decide +kernel⟩
abbrev s_Limits_every : Stmt := inClass (topS 23) 1
abbrev N_Limits_every : List Str := ["cls"]
theorem sc_Limits_every : FnScope N_Limits_every ["cls"] (defScope s_Limits_every) := ⟨rfl, rfl, rfl, by decide +kernel, rfl, by decide +kernel, by decide +kernel⟩
abbrev s_Limits_none : Stmt := inClass (topS 23) 2
abbrev N_Limits_none : List Str := ["cls"]
theorem sc_Limits_none : FnScope N_Limits_none ["cls"] (defScope s_Limits_none) := ⟨rfl, rfl, rfl, by decide +kernel, rfl, by decide +kernel, by decide +kernel⟩
abbrev s_Limits_is_within : Stmt := inClass (topS 23) 15
abbrev N_Limits_is_within : List Str := ["self", "other"]
theorem sc_Limits_is_within : FnScope N_Limits_is_within ["self", "other"] (defScope s_Limits_is_within) := ⟨rfl, rfl, rfl, by decide +kernel, rfl, by decide +kernel, by decide +kernel⟩
abbrev s_Limits___and__ : Stmt := inClass (topS 23) 16
abbrev N_Limits___and__ : List Str := ["self", "other"]
theorem sc_Limits___and__ : FnScope N_Limits___and__ ["self", "other"] (defScope s_Limits___and__) := ⟨rfl, rfl, rfl, by decide +kernel, rfl, by decide +kernel, by decide +kernel⟩
abbrev s_Limits___or__ : Stmt := inClass (topS 23) 17
abbrev N_Limits___or__ : List Str := ["self", "other"]
theorem sc_Limits___or__ : FnScope N_Limits___or__ ["self", "other"] (defScope s_Limits___or__) := ⟨rfl, rfl, rfl, by decide +kernel, rfl, by decide +kernel, by decide +kernel⟩
abbrev s_Limits___sub__ : Stmt := inClass (topS 23) 18
abbrev N_Limits___sub__ : List Str := ["self", "other"]
theorem sc_Limits___sub__ : FnScope N_Limits___sub__ ["self", "other"] (defScope s_Limits___sub__) := ⟨rfl, rfl, rfl, by decide +kernel, rfl, by decide +kernel, by decide +kernel⟩
abbrev s_Limits___xor__ : Stmt := inClass (topS 23) 19
abbrev N_Limits___xor__ : List Str := ["self", "other"]
theorem sc_Limits___xor__ : FnScope N_Limits___xor__ ["self", "other"] (defScope s_Limits___xor__) := ⟨rfl, rfl, rfl, by decide +kernel, rfl, by decide +kernel, by decide +kernel⟩
abbrev s_Limits___invert__ : Stmt := inClass (topS 23) 20
abbrev N_Limits___invert__ : List Str := ["self", "few", "rests", "number", "rest"]
theorem sc_Limits___invert__ : FnScope N_Limits___invert__ ["self"] (defScope s_Limits___invert__) := ⟨rfl, rfl, rfl, by decide +kernel, rfl, by decide +kernel, by decide +kernel⟩
abbrev s_Limits___contains__ : Stmt := inClass (topS 23) 21
abbrev N_Limits___contains__ : List Str := ["self", "value"]
theorem sc_Limits___contains__ : FnScope N_Limits___contains__ ["self", "value"] (defScope s_Limits___contains__) := ⟨rfl, rfl, rfl, by decide +kernel, rfl, by decide +kernel, by decide +kernel⟩
abbrev s_Limits___bool__ : Stmt := inClass (topS 23) 22
abbrev N_Limits___bool__ : List Str := ["self"]
theorem sc_Limits___bool__ : FnScope N_Limits___bool__ ["self"] (defScope s_Limits___bool__) := ⟨rfl, rfl, rfl, by decide +kernel, rfl, by decide +kernel, by decide +kernel⟩
abbrev s_Limits___eq__ : Stmt := inClass (topS 23) 24
abbrev N_Limits___eq__ : List Str := ["self", "other"]
theorem sc_Limits___eq__ : FnScope N_Limits___eq__ ["self", "other"] (defScope s_Limits___eq__) := ⟨rfl, rfl, rfl, by decide +kernel, rfl, by decide +kernel, by decide +kernel⟩
abbrev s_begins_of : Stmt := topS 24
abbrev N_begins_of : List Str := ["first", "period", "rests", "rest"]
theorem sc_begins_of : FnScope N_begins_of ["first", "period", "rests"] (defScope s_begins_of) := ⟨rfl, rfl, rfl, by decide +kernel, rfl, by decide +kernel, by decide +kernel⟩
abbrev s_require_limits : Stmt := topS 25
abbrev N_require_limits : List Str := ["value"]
theorem sc_require_limits : FnScope N_require_limits ["value"] (defScope s_require_limits) := ⟨rfl, rfl, rfl, by decide +kernel, rfl, by decide +kernel, by decide +kernel⟩
abbrev s_has_number : Stmt := topS 26
abbrev N_has_number : List Str := ["limits", "number"]
theorem sc_has_number : FnScope N_has_number ["limits", "number"] (defScope s_has_number) := ⟨rfl, rfl, rfl, by decide +kernel, rfl, by decide +kernel, by decide +kernel⟩
abbrev s_joined : Stmt := topS 27
abbrev N_joined : List Str := ["one", "other", "wanted", "period", "first", "numbers", "rests", "at", "number"]
theorem sc_joined : FnScope N_joined ["one", "other", "wanted"] (defScope s_joined) := ⟨rfl, rfl, rfl, by decide +kernel, rfl, by decide +kernel, by decide +kernel⟩
abbrev s__law_urn : Stmt := topS 29
abbrev N__law_urn : List Str := ["_law_script", "_law_spot", "_law_cell", "_law_great", "_law_seed"]
theorem sc__law_urn : FnScope N__law_urn ["_law_script", "_law_spot"] (defScope s__law_urn) := ⟨rfl, rfl, rfl, by decide +kernel, rfl, by decide +kernel, by decide +kernel⟩
abbrev s__law_toss : Stmt := topS 30
abbrev N__law_toss : List Str := ["_law_urn_here", "_law_size", "_law_one", "_law_two", "_law_found"]
theorem sc__law_toss : FnScope N__law_toss ["_law_urn_here", "_law_size"] (defScope s__law_toss) := ⟨rfl, rfl, rfl, by decide +kernel, rfl, by decide +kernel, by decide +kernel⟩
abbrev s__law_pick : Stmt := topS 31
abbrev N__law_pick : List Str := ["_law_urn_here", "_law_items"]
theorem sc__law_pick : FnScope N__law_pick ["_law_urn_here", "_law_items"] (defScope s__law_pick) := ⟨rfl, rfl, rfl, by decide +kernel, rfl, by decide +kernel, by decide +kernel⟩
abbrev s__law_drawn : Stmt := topS 32
abbrev N__law_drawn : List Str := ["_law_urn_here", "_law_few", "_law_way", "_law_rests", "_law_first", "_law_period", "_law_rest", "_law_number"]
theorem sc__law_drawn : FnScope N__law_drawn ["_law_urn_here"] (defScope s__law_drawn) := ⟨rfl, rfl, rfl, by decide +kernel, rfl, by decide +kernel, by decide +kernel⟩
abbrev s__law_has : Stmt := topS 33
abbrev N__law_has : List Str := ["_law_parts", "_law_number"]
theorem sc__law_has : FnScope N__law_has ["_law_parts", "_law_number"] (defScope s__law_has) := ⟨rfl, rfl, rfl, by decide +kernel, rfl, by decide +kernel, by decide +kernel⟩
abbrev s__law_limits : Stmt := topS 34
abbrev N__law_limits : List Str := ["_law_parts"]
theorem sc__law_limits : FnScope N__law_limits ["_law_parts"] (defScope s__law_limits) := ⟨rfl, rfl, rfl, by decide +kernel, rfl, by decide +kernel, by decide +kernel⟩
abbrev s__law_due : Stmt := topS 35
abbrev N__law_due : List Str := ["_law_way", "_law_one", "_law_other"]
theorem sc__law_due : FnScope N__law_due ["_law_way", "_law_one", "_law_other"] (defScope s__law_due) := ⟨rfl, rfl, rfl, by decide +kernel, rfl, by decide +kernel, by decide +kernel⟩
abbrev s__law_is_by : Stmt := topS 36
abbrev N__law_is_by : List Str := ["_law_found", "_law_some", "_law_way", "_law_at"]
theorem sc__law_is_by : FnScope N__law_is_by ["_law_found", "_law_some", "_law_way"] (defScope s__law_is_by) := ⟨rfl, rfl, rfl, by decide +kernel, rfl, by decide +kernel, by decide +kernel⟩
abbrev s__law_right : Stmt := topS 37
abbrev N__law_right : List Str := ["_law_urn_here", "_law_some", "_law_left", "_law_a", "_law_b", "_law_c", "_law_turn", "_law_parts", "_law_at"]
theorem sc__law_right : FnScope N__law_right ["_law_urn_here"] (defScope s__law_right) := ⟨rfl, rfl, rfl, by decide +kernel, rfl, by decide +kernel, by decide +kernel⟩
abbrev s_law : Stmt := topS 38
abbrev N_law : List Str := ["_law_script", "_law_spot", "_law_told", "_law_due_here", "_law_odd", "_law_three"]
theorem sc_law : FnScope N_law ["_law_script"] (defScope s_law) := ⟨rfl, rfl, rfl, by decide +kernel, rfl, by decide +kernel, by decide +kernel⟩
/-! ### what each def means -/
noncomputable section
def b_is_integer : Dz.Env → M Out := sRet (eAnd (eCB (bIsiX csL tabL) (aCons (eVar 0) (aCons (eC (.ty "int")) (aNil)))) (eAnd (eNot (eCB (bIsiX csL tabL) (aCons (eVar 0) (aCons (eC (.ty "bool")) (aNil))))) (eChain cLt cLt (eUn opNeg (eC (.int c_TOP))) (eVar 0) (eC (.int c_TOP)))))
def f_is_integer : List Vl → M Vl := fnM 1 b_is_integer
def b_is_ascending : Dz.Env → M Out := sRet (eCB bAll (aCons (eNew (lcF (iZp (aCons (eVar 0) (aCons (eSl (eVar 0) (oSome (eC (.int 1))) (oNone)) (aNil)))) (.tup [1, 2]) (bYes) (eOp cLt (eVar 1) (eVar 2)) [1, 2])) (aNil)))
def f_is_ascending : List Vl → M Vl := fnM 3 b_is_ascending
def b_has_period : Dz.Env → M Out := sSeq (sSet 3 (eDc (iOf itA (eVar 0)) (.one 4) (bYes) (eVar 4) (eC (.bl true)) [4])) (sRet (eCB bAll (aCons (eNew (lcF (iRg (aCons (eVar 1) (aNil))) (.one 4) (bYes) (eOp cEqX (eOp cIn2 (eVar 4) (eVar 3)) (eOp cIn2 (eOp opMod (eOp opAdd (eVar 4) (eVar 2)) (eVar 1)) (eVar 3))) [4])) (aNil))))
def f_has_period : List Vl → M Vl := fnM 5 b_has_period
def b_least_first : Dz.Env → M Out := sSeq (sPar 5 6 (aCons (eDc (iOf itA (eVar 0)) (.one 7) (bYes) (eVar 7) (eC (.bl true)) [7]) (aCons (eDc (iOf itA (eVar 3)) (.one 8) (bYes) (eVar 8) (eC (.bl true)) [8]) (aNil)))) (sSeq (sFor (iRg3 (aCons (eOp opSub (eVar 1) (eC (.int 1))) (aCons (eUn opNeg (eC (.int 1))) (aCons (eUn opNeg (eC (.int 1))) (aNil))))) (.one 4) (sIf (eTest (eOp cNeX (eOp cIn2 (eVar 4) (eVar 5)) (eOp cIn2 (eOp opMod (eVar 4) (eVar 2)) (eVar 6)))) (sRet (eOp opAdd (eVar 4) (eC (.int 1)))) (sNext))) (sRet (eC (.int 0))))
def f_least_first : List Vl → M Vl := fnM 9 b_least_first
def b_greatest_divisor : Dz.Env → M Out := sSeq (sWhile 100000 (eTest (eOp cNeX (eVar 1) (eC (.int 0)))) (sPar 0 1 (aCons (eVar 1) (aCons (eOp opMod (eVar 0) (eVar 1)) (aNil))))) (sRet (eVar 0))
def f_greatest_divisor : List Vl → M Vl := fnM 2 b_greatest_divisor
def b_Limits___bool__ : Dz.Env → M Out := sRet (eOp cGt (eOp opAdd (eCB bLen (aCons (eFld ["Limits"] "own_few" (eVar 0)) (aNil))) (eCB bLen (aCons (eFld ["Limits"] "own_rests" (eVar 0)) (aNil)))) (eC (.int 0)))
def f_Limits___bool__ : List Vl → M Vl := fnM 1 b_Limits___bool__
def b_Limits___eq__ : Dz.Env → M Out := sRet (eAnd (eCB (bIsiX csL tabL) (aCons (eVar 1) (aCons (eC (.cls "Limits")) (aNil)))) (eAnd (eOp cEqX (eFld ["Limits"] "own_few" (eVar 0)) (eFld ["Limits"] "own_few" (eVar 1))) (eAnd (eOp cEqX (eFld ["Limits"] "own_first" (eVar 0)) (eFld ["Limits"] "own_first" (eVar 1))) (eAnd (eOp cEqX (eFld ["Limits"] "own_period" (eVar 0)) (eFld ["Limits"] "own_period" (eVar 1))) (eOp cEqX (eFld ["Limits"] "own_rests" (eVar 0)) (eFld ["Limits"] "own_rests" (eVar 1)))))))
def f_Limits___eq__ : List Vl → M Vl := fnM 2 b_Limits___eq__
def b_begins_of : Dz.Env → M Out := sRet (eCB tTuple (aCons (eNew (nCB bSorted (aCons (eNew (lcF (iOf itA (eVar 2)) (.one 3) (bYes) (eOp opAdd (eVar 0) (eOp opMod (eOp opSub (eVar 3) (eVar 0)) (eVar 1))) [3])) (aNil)))) (aNil)))
def f_begins_of : List Vl → M Vl := fnM 4 b_begins_of
def b_require_limits : Dz.Env → M Out := sIf (bNot (eTest (eCB (bIsiX csL tabL) (aCons (eVar 0) (aCons (eC (.cls "Limits")) (aNil)))))) (sRz "InvalidLimits") (sNext)
def f_require_limits : List Vl → M Vl := fnM 1 b_require_limits
def b_has_number : Dz.Env → M Out := sSeq (sIf (eTest (eOp cLt (eVar 1) (eFld ["Limits"] "own_first" (eVar 0)))) (sRet (eOp cIn2 (eVar 1) (eFld ["Limits"] "own_few" (eVar 0)))) (sNext)) (sRet (eOp cIn2 (eOp opMod (eVar 1) (eFld ["Limits"] "own_period" (eVar 0))) (eFld ["Limits"] "own_rests" (eVar 0))))
def f_has_number : List Vl → M Vl := fnM 2 b_has_number
def b__law_urn : Dz.Env → M Out := sSeq (sSet 2 (eIf (eTest (eOp cLt (eVar 1) (eCB bLen (aCons (eVar 0) (aNil))))) (eIx (eVar 0) (eVar 1)) (eOp opAdd (eOp opMul (eC (.int 71)) (eVar 1)) (eC (.int 29))))) (sSeq (sSet 3 (eOp opMod (eCB tInt (aCons (eCB bAbs (aCons (eVar 2) (aNil))) (aNil))) (eOp opPow (eOp opPow (eC (.int 10)) (eC (.int 59))) (eC (.int 10))))) (sSeq (sSet 4 (eOp opMod (eCB tInt (aCons (eOp opAdd (eOp opAdd (eOp opAdd (eOp opMul (eVar 3) (eC (.int 1000193))) (eOp opMul (eC (.int 9176)) (eVar 1))) (eOp opMul (eC (.int 37)) (eCB tInt (aCons (eOp cLt (eVar 2) (eC (.int 0))) (aNil))))) (eC (.int 11))) (aNil))) (eC (.int 1152921504606846803)))) (sRet (eCell (aCons (eCB bMax (aCons (eC (.int 0)) (aCons (eOp opSub (eVar 3) (eOp opPow (eC (.int 10)) (eC (.int 15)))) (aNil)))) (aCons (eVar 4) (aCons (eC (.int 0)) (aNil))))))))
def f__law_urn : List Vl → M Vl := fnM 5 b__law_urn
def b__law_toss : Dz.Env → M Out := sSeq (sIf (eTest (eOp cGt (eIx (eVar 0) (eC (.int 0))) (eC (.int 0)))) (sSeq (sSet 4 (eOp opMod (eCB tInt (aCons (eIx (eVar 0) (eC (.int 0))) (aNil))) (eVar 1))) (sSeq (sPut (eVar 0) (eC (.int 0)) (eOp opDiv (eIx (eVar 0) (eC (.int 0))) (eVar 1))) (sRet (eVar 4)))) (sNext)) (sSeq (sPut (eVar 0) (eC (.int 2)) (eOp opAdd (eIx (eVar 0) (eC (.int 2))) (eC (.int 1)))) (sSeq (sSet 2 (eOp opMod (eCB tInt (aCons (eOp opAdd (eIx (eVar 0) (eC (.int 1))) (eOp opMul (eC (.int 920419813)) (eIx (eVar 0) (eC (.int 2))))) (aNil))) (eC (.int 2305843009213693907)))) (sSeq (sSet 3 (eOp opAdd (eOp opMul (eOp opMod (eCB tInt (aCons (eOp opMul (eVar 2) (eVar 2)) (aNil))) (eC (.int 1000000000000037))) (eVar 2)) (eOp opMul (eC (.int 7411)) (eIx (eVar 0) (eC (.int 2)))))) (sRet (eOp opMod (eCB tInt (aCons (eOp opDiv (eOp opMod (eCB tInt (aCons (eOp opAdd (eVar 3) (eIx (eVar 0) (eC (.int 1)))) (aNil))) (eC (.int 4398046511093))) (eC (.int 16))) (aNil))) (eVar 1))))))
def f__law_toss : List Vl → M Vl := fnM 5 b__law_toss
def b__law_has : Dz.Env → M Out := sRet (eIf (eTest (eOp cLt (eVar 1) (eIx (eVar 0) (eC (.int 1))))) (eOp cIn2 (eVar 1) (eIx (eVar 0) (eC (.int 0)))) (eOp cIn2 (eOp opMod (eVar 1) (eIx (eVar 0) (eC (.int 2)))) (eIx (eVar 0) (eC (.int 3)))))
def f__law_has : List Vl → M Vl := fnM 2 b__law_has
def b__law_due : Dz.Env → M Out := sSeq (sIf (eTest (eOp cEqX (eVar 0) (eC (.str "and")))) (sRet (eAnd (eVar 1) (eVar 2))) (sNext)) (sSeq (sIf (eTest (eOp cEqX (eVar 0) (eC (.str "or")))) (sRet (eOr (eVar 1) (eVar 2))) (sNext)) (sRet (eIf (eTest (eOp cEqX (eVar 0) (eC (.str "xor")))) (eOp cNeX (eVar 1) (eVar 2)) (eAnd (eVar 1) (eNot (eVar 2))))))
def f__law_due : List Vl → M Vl := fnM 3 b__law_due
def b_is_below : Dz.Env → M Out := sRet (eAnd (eCall f_is_integer (aCons (eVar 0) (aNil))) (eChain cLe cLt (eC (.int 0)) (eVar 0) (eVar 1)))
def f_is_below : List Vl → M Vl := fnM 2 b_is_below
def b_least_period : Dz.Env → M Out := sRet (eCB bMinL (aCons (eNew (lcF (iRg (aCons (eC (.int 1)) (aCons (eOp opAdd (eVar 1) (eC (.int 1))) (aNil)))) (.one 2) (bAnd (eTest (eOp cEqX (eOp opMod (eVar 1) (eVar 2)) (eC (.int 0)))) (eTest (eCall f_has_period (aCons (eVar 0) (aCons (eVar 1) (aCons (eVar 2) (aNil))))))) (eVar 2) [2])) (aNil)))
def f_least_period : List Vl → M Vl := fnM 3 b_least_period
def b_Limits___contains__ : Dz.Env → M Out := sRet (eAnd (eCall f_is_integer (aCons (eVar 1) (aNil))) (eAnd (eOp cGe (eVar 1) (eC (.int 0))) (eCall f_has_number (aCons (eVar 0) (aCons (eVar 1) (aNil))))))
def f_Limits___contains__ : List Vl → M Vl := fnM 2 b_Limits___contains__
def b__law_pick : Dz.Env → M Out := sRet (eIx (eVar 1) (eCall f__law_toss (aCons (eVar 0) (aCons (eCB bLen (aCons (eVar 1) (aNil))) (aNil)))))
def f__law_pick : List Vl → M Vl := fnM 2 b__law_pick
def b_are_below : Dz.Env → M Out := sRet (eAnd (eCB (bIsiX csL tabL) (aCons (eVar 0) (aCons (eC (.ty "tuple")) (aNil)))) (eAnd (eCB bAll (aCons (eNew (lcF (iOf itA (eVar 0)) (.one 2) (bYes) (eCall f_is_below (aCons (eVar 2) (aCons (eVar 1) (aNil)))) [2])) (aNil))) (eCall f_is_ascending (aCons (eVar 0) (aNil)))))
def f_are_below : List Vl → M Vl := fnM 3 b_are_below
def b__law_drawn : Dz.Env → M Out := sSeq (sPar 4 5 (aCons (eCall f__law_pick (aCons (eVar 0) (aCons (eLst (aCons (eC (.int 0)) (aCons (eC (.int 3)) (aCons (eC (.int 1)) (aCons (eC (.int 6)) (aCons (eC (.int 2)) (aCons (eC (.int 9)) (aNil)))))))) (aNil)))) (aCons (eCall f__law_pick (aCons (eVar 0) (aCons (eLst (aCons (eC (.int 1)) (aCons (eC (.int 2)) (aCons (eC (.int 3)) (aCons (eC (.int 6)) (aCons (eC (.int 4)) (aCons (eC (.int 5)) (aCons (eC (.int 12)) (aNil))))))))) (aNil)))) (aNil)))) (sSeq (sSet 1 (eCB tTuple (aCons (eNew (lcF (iRg (aCons (eVar 4) (aNil))) (.one 7) (eTest (eOp cEqX (eCall f__law_toss (aCons (eVar 0) (aCons (eC (.int 2)) (aNil)))) (eC (.int 0)))) (eVar 7) [7])) (aNil)))) (sSeq (sSet 2 (eCall f__law_toss (aCons (eVar 0) (aCons (eC (.int 4)) (aNil))))) (sSeq (sSet 3 (eNew (lcF (iRg (aCons (eVar 5) (aNil))) (.one 6) (bOr (eTest (eOp cEqX (eVar 2) (eC (.int 1)))) (bAnd (eTest (eOp cGt (eVar 2) (eC (.int 1)))) (eTest (eOp cEqX (eCall f__law_toss (aCons (eVar 0) (aCons (eC (.int 2)) (aNil)))) (eC (.int 0)))))) (eVar 6) [6]))) (sRet (eLst (aCons (eVar 1) (aCons (eVar 4) (aCons (eVar 5) (aCons (eCB tTuple (aCons (eVar 3) (aNil))) (aNil))))))))))
def f__law_drawn : List Vl → M Vl := fnM 8 b__law_drawn
def b__law_is_by : Dz.Env → M Out := sSeq (sFor (iRg (aCons (eC (.int 180)) (aNil))) (.one 3) (sIf (eTest (eOp (dunNe "Limits" tys_Limits f_Limits___eq__ cNeX) (eOp (dunIn "Limits" f_Limits___contains__ cIn2) (eVar 3) (eVar 0)) (eCall f__law_due (aCons (eVar 2) (aCons (eCall f__law_has (aCons (eIx (eVar 1) (eC (.int 0))) (aCons (eVar 3) (aNil)))) (aCons (eCall f__law_has (aCons (eIx (eVar 1) (eC (.int 1))) (aCons (eVar 3) (aNil)))) (aNil))))))) (sRet (eC (.bl false))) (sNext))) (sRet (eC (.bl true)))
def f__law_is_by : List Vl → M Vl := fnM 4 b__law_is_by
def b_Limits___init__ : Dz.Env → M Out := sSeq (sIf (bOr (bNot (eTest (eCall f_is_below (aCons (eVar 2) (aCons (eOp opAdd (eC (.int c_MAX_PERIOD)) (eC (.int 1))) (aNil)))))) (bOr (bNot (eTest (eCall f_is_below (aCons (eVar 3) (aCons (eOp opAdd (eC (.int c_MAX_PERIOD)) (eC (.int 1))) (aNil)))))) (eTest (eOp cEqX (eVar 3) (eC (.int 0)))))) (sRz "InvalidLimits") (sNext)) (sSeq (sIf (bOr (bNot (eTest (eCall f_are_below (aCons (eVar 1) (aCons (eVar 2) (aNil)))))) (bNot (eTest (eCall f_are_below (aCons (eVar 4) (aCons (eVar 3) (aNil))))))) (sRz "InvalidLimits") (sNext)) (sSeq (sFd ["Limits"] "own_period" (eVar 0) (eCall f_least_period (aCons (eVar 4) (aCons (eVar 3) (aNil))))) (sSeq (sFd ["Limits"] "own_rests" (eVar 0) (eCB tTuple (aCons (eNew (lcF (iOf itA (eVar 4)) (.one 5) (eTest (eOp cLt (eVar 5) (eFld ["Limits"] "own_period" (eVar 0)))) (eVar 5) [5])) (aNil)))) (sSeq (sFd ["Limits"] "own_first" (eVar 0) (eCall f_least_first (aCons (eVar 1) (aCons (eVar 2) (aCons (eFld ["Limits"] "own_period" (eVar 0)) (aCons (eFld ["Limits"] "own_rests" (eVar 0)) (aNil))))))) (sSeq (sFd ["Limits"] "own_few" (eVar 0) (eCB tTuple (aCons (eNew (lcF (iOf itA (eVar 1)) (.one 6) (eTest (eOp cLt (eVar 6) (eFld ["Limits"] "own_first" (eVar 0)))) (eVar 6) [6])) (aNil)))) (sFd ["Limits"] "own_begins" (eVar 0) (eCall f_begins_of (aCons (eFld ["Limits"] "own_first" (eVar 0)) (aCons (eFld ["Limits"] "own_period" (eVar 0)) (aCons (eFld ["Limits"] "own_rests" (eVar 0)) (aNil)))))))))))
def f_Limits___init__ : List Vl → M Vl := fnM 7 b_Limits___init__
def b_Limits_every : Dz.Env → M Out := sRet (eMkL 0 "Limits" f_Limits___init__ (aCons (eTup (aNil)) (aCons (eC (.int 0)) (aCons (eC (.int 1)) (aCons (eTup (aCons (eC (.int 0)) (aNil))) (aNil))))))
def f_Limits_every : List Vl → M Vl := fnM 1 b_Limits_every
def b_Limits_none : Dz.Env → M Out := sRet (eMkL 0 "Limits" f_Limits___init__ (aCons (eTup (aNil)) (aCons (eC (.int 0)) (aCons (eC (.int 1)) (aCons (eTup (aNil)) (aNil))))))
def f_Limits_none : List Vl → M Vl := fnM 1 b_Limits_none
def b_Limits___invert__ : Dz.Env → M Out := sSeq (sSet 1 (eCB tTuple (aCons (eNew (lcF (iRg (aCons (eFld ["Limits"] "own_first" (eVar 0)) (aNil))) (.one 3) (eTest (eOp cNotIn2 (eVar 3) (eFld ["Limits"] "own_few" (eVar 0)))) (eVar 3) [3])) (aNil)))) (sSeq (sSet 2 (eCB tTuple (aCons (eNew (lcF (iRg (aCons (eFld ["Limits"] "own_period" (eVar 0)) (aNil))) (.one 4) (eTest (eOp cNotIn2 (eVar 4) (eFld ["Limits"] "own_rests" (eVar 0)))) (eVar 4) [4])) (aNil)))) (sRet (eMk "Limits" f_Limits___init__ (aCons (eVar 1) (aCons (eFld ["Limits"] "own_first" (eVar 0)) (aCons (eFld ["Limits"] "own_period" (eVar 0)) (aCons (eVar 2) (aNil))))))))
def f_Limits___invert__ : List Vl → M Vl := fnM 5 b_Limits___invert__
def b_joined : Dz.Env → M Out := sSeq (sDrop (eCall f_require_limits (aCons (eVar 1) (aNil)))) (sSeq (sSet 3 (eOp opDiv (eOp opMul (eFld ["Limits"] "own_period" (eVar 0)) (eFld ["Limits"] "own_period" (eVar 1))) (eCall f_greatest_divisor (aCons (eFld ["Limits"] "own_period" (eVar 0)) (aCons (eFld ["Limits"] "own_period" (eVar 1)) (aNil)))))) (sSeq (sIf (eTest (eOp cGt (eVar 3) (eC (.int c_MAX_PERIOD)))) (sNever) (sNext)) (sSeq (sSet 4 (eCB bMax (aCons (eFld ["Limits"] "own_first" (eVar 0)) (aCons (eFld ["Limits"] "own_first" (eVar 1)) (aNil))))) (sSeq (sSet 5 (eNew (lcF (iRg (aCons (eOp opAdd (eVar 4) (eVar 3)) (aNil))) (.one 7) (eTest (eOp cIn3 (eTup (aCons (eCall f_has_number (aCons (eVar 0) (aCons (eVar 7) (aNil)))) (aCons (eCall f_has_number (aCons (eVar 1) (aCons (eVar 7) (aNil)))) (aNil)))) (eVar 2))) (eVar 7) [7]))) (sSeq (sSet 6 (eNew (nCB bSorted (aCons (eNew (lcF (iOf itA (eVar 5)) (.one 8) (eTest (eOp cGe (eVar 8) (eVar 4))) (eOp opMod (eVar 8) (eVar 3)) [8])) (aNil))))) (sRet (eMk "Limits" f_Limits___init__ (aCons (eCB tTuple (aCons (eNew (lcF (iOf itA (eVar 5)) (.one 8) (eTest (eOp cLt (eVar 8) (eVar 4))) (eVar 8) [8])) (aNil))) (aCons (eVar 4) (aCons (eVar 3) (aCons (eCB tTuple (aCons (eVar 6) (aNil))) (aNil))))))))))))
def f_joined : List Vl → M Vl := fnM 9 b_joined
def b__law_limits : Dz.Env → M Out := sRet (eMk "Limits" f_Limits___init__ (aCons (eIx (eVar 0) (eC (.int 0))) (aCons (eIx (eVar 0) (eC (.int 1))) (aCons (eIx (eVar 0) (eC (.int 2))) (aCons (eIx (eVar 0) (eC (.int 3))) (aNil))))))
def f__law_limits : List Vl → M Vl := fnM 1 b__law_limits
def b_Limits_is_within : Dz.Env → M Out := sRet (eNot (eCB (tBoolX "Limits" f_Limits___bool__ tBool0) (aCons (eCall f_joined (aCons (eVar 0) (aCons (eVar 1) (aCons (eC c_ONE_ALONE) (aNil))))) (aNil))))
def f_Limits_is_within : List Vl → M Vl := fnM 2 b_Limits_is_within
def b_Limits___and__ : Dz.Env → M Out := sRet (eCall f_joined (aCons (eVar 0) (aCons (eVar 1) (aCons (eC c_BOTH) (aNil)))))
def f_Limits___and__ : List Vl → M Vl := fnM 2 b_Limits___and__
def b_Limits___or__ : Dz.Env → M Out := sRet (eCall f_joined (aCons (eVar 0) (aCons (eVar 1) (aCons (eC c_ANY) (aNil)))))
def f_Limits___or__ : List Vl → M Vl := fnM 2 b_Limits___or__
def b_Limits___sub__ : Dz.Env → M Out := sRet (eCall f_joined (aCons (eVar 0) (aCons (eVar 1) (aCons (eC c_ONE_ALONE) (aNil)))))
def f_Limits___sub__ : List Vl → M Vl := fnM 2 b_Limits___sub__
def b_Limits___xor__ : Dz.Env → M Out := sRet (eCall f_joined (aCons (eVar 0) (aCons (eVar 1) (aCons (eC c_JUST_ONE) (aNil)))))
def f_Limits___xor__ : List Vl → M Vl := fnM 2 b_Limits___xor__
def b__law_right : Dz.Env → M Out := sSeq (sSet 1 (eNew (lcF (iRg (aCons (eC (.int 3)) (aNil))) (.one 6) (bYes) (eCall f__law_drawn (aCons (eVar 0) (aNil))) [6]))) (sSeq (sAsgL (eNew (lcF (iOf itA (eVar 1)) (.one 7) (bYes) (eCall f__law_limits (aCons (eVar 7) (aNil))) [7])) [3, 4, 5]) (sSeq (sIf (bOr (bNot (eTest (eCall f__law_is_by (aCons (eOp (dunBin "Limits" f_Limits___and__ g0) (eVar 3) (eVar 4)) (aCons (eVar 1) (aCons (eC (.str "and")) (aNil))))))) (bNot (eTest (eCall f__law_is_by (aCons (eOp (dunBin "Limits" f_Limits___or__ g0) (eVar 3) (eVar 4)) (aCons (eVar 1) (aCons (eC (.str "or")) (aNil)))))))) (sRet (eC (.bl false))) (sNext)) (sSeq (sIf (bOr (bNot (eTest (eCall f__law_is_by (aCons (eOp (dunBin "Limits" f_Limits___sub__ opSub) (eVar 3) (eVar 4)) (aCons (eVar 1) (aCons (eC (.str "less")) (aNil))))))) (bNot (eTest (eCall f__law_is_by (aCons (eOp (dunBin "Limits" f_Limits___xor__ g0) (eVar 3) (eVar 4)) (aCons (eVar 1) (aCons (eC (.str "xor")) (aNil)))))))) (sRet (eC (.bl false))) (sNext)) (sSeq (sIf (bOr (eTest (eOp (dunNe "Limits" tys_Limits f_Limits___eq__ cNeX) (eNew (lcF (iRg (aCons (eC (.int 180)) (aNil))) (.one 8) (eTest (eOp (dunEq "Limits" tys_Limits f_Limits___eq__ cEqX) (eOp (dunIn "Limits" f_Limits___contains__ cIn2) (eVar 8) (eUn (dunUn "Limits" f_Limits___invert__) (eVar 3))) (eOp (dunIn "Limits" f_Limits___contains__ cIn2) (eVar 8) (eVar 3)))) (eVar 8) [8])) (eLst (aNil)))) (eTest (eOp (dunNe "Limits" tys_Limits f_Limits___eq__ cNeX) (eUn (dunUn "Limits" f_Limits___invert__) (eUn (dunUn "Limits" f_Limits___invert__) (eVar 3))) (eVar 3)))) (sRet (eC (.bl false))) (sNext)) (sSeq (sIf (bOr (eTest (eOp (dunNe "Limits" tys_Limits f_Limits___eq__ cNeX) (eOp (dunBin "Limits" f_Limits___sub__ opSub) (eVar 3) (eVar 4)) (eOp (dunBin "Limits" f_Limits___and__ g0) (eVar 3) (eUn (dunUn "Limits" f_Limits___invert__) (eVar 4))))) (bOr (eTest (eOp (dunNe "Limits" tys_Limits f_Limits___eq__ cNeX) (eOp (dunBin "Limits" f_Limits___xor__ g0) (eVar 3) (eVar 4)) (eOp (dunBin "Limits" f_Limits___sub__ opSub) (eOp (dunBin "Limits" f_Limits___or__ g0) (eVar 3) (eVar 4)) (eOp (dunBin "Limits" f_Limits___and__ g0) (eVar 3) (eVar 4))))) (eTest (eOp (dunNe "Limits" tys_Limits f_Limits___eq__ cNeX) (eUn (dunUn "Limits" f_Limits___invert__) (eOp (dunBin "Limits" f_Limits___or__ g0) (eVar 3) (eVar 4))) (eOp (dunBin "Limits" f_Limits___and__ g0) (eUn (dunUn "Limits" f_Limits___invert__) (eVar 3)) (eUn (dunUn "Limits" f_Limits___invert__) (eVar 4))))))) (sRet (eC (.bl false))) (sNext)) (sSeq (sIf (bOr (eTest (eOp (dunNe "Limits" tys_Limits f_Limits___eq__ cNeX) (eOp (dunBin "Limits" f_Limits___and__ g0) (eVar 3) (eOp (dunBin "Limits" f_Limits___or__ g0) (eVar 4) (eVar 5))) (eOp (dunBin "Limits" f_Limits___or__ g0) (eOp (dunBin "Limits" f_Limits___and__ g0) (eVar 3) (eVar 4)) (eOp (dunBin "Limits" f_Limits___and__ g0) (eVar 3) (eVar 5))))) (eTest (eOp (dunNe "Limits" tys_Limits f_Limits___eq__ cNeX) (eOp (dunBin "Limits" f_Limits___xor__ g0) (eOp (dunBin "Limits" f_Limits___xor__ g0) (eVar 3) (eVar 4)) (eVar 5)) (eOp (dunBin "Limits" f_Limits___xor__ g0) (eVar 3) (eOp (dunBin "Limits" f_Limits___xor__ g0) (eVar 4) (eVar 5)))))) (sRet (eC (.bl false))) (sNext)) (sSeq (sSet 2 (eNew (lcF (iRg (aCons (eC (.int 180)) (aNil))) (.one 8) (bAnd (eTest (eCall f__law_has (aCons (eIx (eVar 1) (eC (.int 0))) (aCons (eVar 8) (aNil))))) (bNot (eTest (eCall f__law_has (aCons (eIx (eVar 1) (eC (.int 1))) (aCons (eVar 8) (aNil))))))) (eVar 8) [8]))) (sSeq (sIf (bOr (eTest (eOp (dunNe "Limits" tys_Limits f_Limits___eq__ cNeX) (eMet "Limits" "is_within" f_Limits_is_within (eVar 3) (aCons (eVar 4) (aNil))) (eOp (dunEq "Limits" tys_Limits f_Limits___eq__ cEqX) (eVar 2) (eLst (aNil))))) (bOr (eTest (eOp (dunNe "Limits" tys_Limits f_Limits___eq__ cNeX) (eMet "Limits" "is_within" f_Limits_is_within (eVar 3) (aCons (eVar 4) (aNil))) (eOp (dunEq "Limits" tys_Limits f_Limits___eq__ cEqX) (eOp (dunBin "Limits" f_Limits___or__ g0) (eVar 3) (eVar 4)) (eVar 4)))) (bNot (eTest (eMet "Limits" "is_within" f_Limits_is_within (eOp (dunBin "Limits" f_Limits___and__ g0) (eVar 3) (eVar 4)) (aCons (eVar 3) (aNil))))))) (sRet (eC (.bl false))) (sNext)) (sRet (eAnd (eMet "Limits" "is_within" f_Limits_is_within (eVar 3) (aCons (eCm "Limits" f_Limits_every (eC (.cls "Limits")) aNil) (aNil))) (eAnd (eMet "Limits" "is_within" f_Limits_is_within (eCm "Limits" f_Limits_none (eC (.cls "Limits")) aNil) (aCons (eVar 3) (aNil))) (eOp (dunEq "Limits" tys_Limits f_Limits___eq__ cEqX) (eCB (tBoolX "Limits" f_Limits___bool__ tBool0) (aCons (eOp (dunBin "Limits" f_Limits___sub__ opSub) (eVar 3) (eVar 4)) (aNil))) (eNot (eMet "Limits" "is_within" f_Limits_is_within (eVar 3) (aCons (eVar 4) (aNil))))))))))))))))
def f__law_right : List Vl → M Vl := fnM 9 b__law_right
def b_law : Dz.Env → M Out := sSeq (sFor (iRg (aCons (eCB bMax (aCons (eC (.int 1)) (aCons (eCB bMinL (aCons (eC (.int 10)) (aCons (eCB bLen (aCons (eVar 0) (aNil))) (aNil)))) (aNil)))) (aNil))) (.one 1) (sIf (bNot (eTest (eCall f__law_right (aCons (eCall f__law_urn (aCons (eVar 0) (aCons (eVar 1) (aNil)))) (aNil))))) (sRet (eC (.bl false))) (sNext))) (sSeq (sPar 4 5 (aCons (eMk "Limits" f_Limits___init__ (aCons (eTup (aNil)) (aCons (eC (.int 0)) (aCons (eC (.int 2)) (aCons (eTup (aCons (eC (.int 1)) (aNil))) (aNil)))))) (aCons (eMk "Limits" f_Limits___init__ (aCons (eTup (aCons (eC (.int 2)) (aNil))) (aCons (eC (.int 5)) (aCons (eC (.int 3)) (aCons (eTup (aCons (eC (.int 0)) (aNil))) (aNil)))))) (aNil)))) (sSeq (sSet 2 (eLst (aCons (eOp (dunBin "Limits" f_Limits___and__ g0) (eVar 4) (eVar 5)) (aCons (eOp (dunBin "Limits" f_Limits___or__ g0) (eVar 4) (eVar 5)) (aCons (eOp (dunBin "Limits" f_Limits___sub__ opSub) (eVar 4) (eVar 5)) (aCons (eOp (dunBin "Limits" f_Limits___xor__ g0) (eVar 4) (eVar 5)) (aCons (eUn (dunUn "Limits" f_Limits___invert__) (eVar 5)) (aNil)))))))) (sSeq (sSet 3 (eLst (aCons (eMk "Limits" f_Limits___init__ (aCons (eTup (aNil)) (aCons (eC (.int 5)) (aCons (eC (.int 6)) (aCons (eTup (aCons (eC (.int 3)) (aNil))) (aNil)))))) (aCons (eMk "Limits" f_Limits___init__ (aCons (eTup (aCons (eC (.int 1)) (aCons (eC (.int 2)) (aCons (eC (.int 3)) (aNil))))) (aCons (eC (.int 4)) (aCons (eC (.int 6)) (aCons (eTup (aCons (eC (.int 0)) (aCons (eC (.int 1)) (aCons (eC (.int 3)) (aCons (eC (.int 5)) (aNil)))))) (aNil)))))) (aCons (eMk "Limits" f_Limits___init__ (aCons (eTup (aCons (eC (.int 1)) (aCons (eC (.int 3)) (aNil)))) (aCons (eC (.int 4)) (aCons (eC (.int 6)) (aCons (eTup (aCons (eC (.int 1)) (aCons (eC (.int 5)) (aNil)))) (aNil)))))) (aNil)))))) (sSeq (sSet 3 (eOp opAdd (eVar 3) (eLst (aCons (eMk "Limits" f_Limits___init__ (aCons (eTup (aCons (eC (.int 1)) (aCons (eC (.int 2)) (aCons (eC (.int 3)) (aNil))))) (aCons (eC (.int 4)) (aCons (eC (.int 6)) (aCons (eTup (aCons (eC (.int 0)) (aCons (eC (.int 1)) (aCons (eC (.int 5)) (aNil))))) (aNil)))))) (aCons (eMk "Limits" f_Limits___init__ (aCons (eTup (aCons (eC (.int 0)) (aCons (eC (.int 1)) (aCons (eC (.int 3)) (aCons (eC (.int 4)) (aNil)))))) (aCons (eC (.int 5)) (aCons (eC (.int 3)) (aCons (eTup (aCons (eC (.int 1)) (aCons (eC (.int 2)) (aNil)))) (aNil)))))) (aNil)))))) (sRet (eAnd (eOp (dunEq "Limits" tys_Limits f_Limits___eq__ (eqLs "Limits" f_Limits___eq__ cEqX)) (eVar 2) (eVar 3)) (eAnd (eNot (eMet "Limits" "is_within" f_Limits_is_within (eVar 4) (aCons (eVar 5) (aNil)))) (eMet "Limits" "is_within" f_Limits_is_within (eOp (dunBin "Limits" f_Limits___and__ g0) (eVar 4) (eVar 5)) (aCons (eVar 5) (aNil))))))))))
def f_law : List Vl → M Vl := fnM 6 b_law
end
/-! ### what the top leaves -/
structure Txt0 (K : Frag) (mg : Str → Option Value) : Prop where
  z_abs : mg "abs" = none
  z_all : mg "all" = none
  z_bool : mg "bool" = none
  z_int : mg "int" = none
  z_isinstance : mg "isinstance" = none
  z_len : mg "len" = none
  z_max : mg "max" = none
  z_min : mg "min" = none
  z_range : mg "range" = none
  z_sorted : mg "sorted" = none
  z_tuple : mg "tuple" = none
  z_zip : mg "zip" = none
  c_ANY : ∃ u v, mg "ANY" = some u ∧ RelV v u ∧ ∀ F, Rep K F c_ANY v
  c_BOTH : ∃ u v, mg "BOTH" = some u ∧ RelV v u ∧ ∀ F, Rep K F c_BOTH v
  c_JUST_ONE : ∃ u v, mg "JUST_ONE" = some u ∧ RelV v u ∧ ∀ F, Rep K F c_JUST_ONE v
  c_MAX_PERIOD : ∃ t, mg "MAX_PERIOD" = some (.int c_MAX_PERIOD t)
  c_ONE_ALONE : ∃ u v, mg "ONE_ALONE" = some u ∧ RelV v u ∧ ∀ F, Rep K F c_ONE_ALONE v
  c_TOP : ∃ t, mg "TOP" = some (.int c_TOP t)
  cf : ∀ c ∈ csL, ClsF K c
  cl_Limits : Cls K (He.ga K "Limits")
  cm_Limits_every : ClX.CMet K (He.ga K "Limits") (.type "type") "every" (He.ma K (He.ga K "Limits") "every") ((Ad.k "Limits" "every").at K)
  cm_Limits_none : ClX.CMet K (He.ga K "Limits") (.type "type") "none" (He.ma K (He.ga K "Limits") "none") ((Ad.k "Limits" "none").at K)
  cr_Limits : ClX.CRead K (He.ga K "Limits") (.type "type")
  du_Limits___and__ : DunC K "Limits" "__and__" ((Ad.m "Limits" "__and__").at K)
  du_Limits___bool__ : DunC K "Limits" "__bool__" ((Ad.m "Limits" "__bool__").at K)
  du_Limits___contains__ : DunC K "Limits" "__contains__" ((Ad.m "Limits" "__contains__").at K)
  du_Limits___eq__ : DunC K "Limits" "__eq__" ((Ad.m "Limits" "__eq__").at K)
  du_Limits___invert__ : DunC K "Limits" "__invert__" ((Ad.m "Limits" "__invert__").at K)
  du_Limits___or__ : DunC K "Limits" "__or__" ((Ad.m "Limits" "__or__").at K)
  du_Limits___sub__ : DunC K "Limits" "__sub__" ((Ad.m "Limits" "__sub__").at K)
  du_Limits___xor__ : DunC K "Limits" "__xor__" ((Ad.m "Limits" "__xor__").at K)
  fi_Limits : PySem.W.selfFirst K (He.ga K "Limits") = true
  fl_Limits_own_begins : FldC K "Limits" "own_begins"
  fl_Limits_own_few : FldC K "Limits" "own_few"
  fl_Limits_own_first : FldC K "Limits" "own_first"
  fl_Limits_own_period : FldC K "Limits" "own_period"
  fl_Limits_own_rests : FldC K "Limits" "own_rests"
  g__law_drawn : mg "_law_drawn" = some (.ref ((Ad.g "_law_drawn").at K))
  g__law_due : mg "_law_due" = some (.ref ((Ad.g "_law_due").at K))
  g__law_has : mg "_law_has" = some (.ref ((Ad.g "_law_has").at K))
  g__law_is_by : mg "_law_is_by" = some (.ref ((Ad.g "_law_is_by").at K))
  g__law_limits : mg "_law_limits" = some (.ref ((Ad.g "_law_limits").at K))
  g__law_pick : mg "_law_pick" = some (.ref ((Ad.g "_law_pick").at K))
  g__law_right : mg "_law_right" = some (.ref ((Ad.g "_law_right").at K))
  g__law_toss : mg "_law_toss" = some (.ref ((Ad.g "_law_toss").at K))
  g__law_urn : mg "_law_urn" = some (.ref ((Ad.g "_law_urn").at K))
  g_are_below : mg "are_below" = some (.ref ((Ad.g "are_below").at K))
  g_begins_of : mg "begins_of" = some (.ref ((Ad.g "begins_of").at K))
  g_greatest_divisor : mg "greatest_divisor" = some (.ref ((Ad.g "greatest_divisor").at K))
  g_has_number : mg "has_number" = some (.ref ((Ad.g "has_number").at K))
  g_has_period : mg "has_period" = some (.ref ((Ad.g "has_period").at K))
  g_is_ascending : mg "is_ascending" = some (.ref ((Ad.g "is_ascending").at K))
  g_is_below : mg "is_below" = some (.ref ((Ad.g "is_below").at K))
  g_is_integer : mg "is_integer" = some (.ref ((Ad.g "is_integer").at K))
  g_joined : mg "joined" = some (.ref ((Ad.g "joined").at K))
  g_least_first : mg "least_first" = some (.ref ((Ad.g "least_first").at K))
  g_least_period : mg "least_period" = some (.ref ((Ad.g "least_period").at K))
  g_require_limits : mg "require_limits" = some (.ref ((Ad.g "require_limits").at K))
  gc_InvalidLimits : mg "InvalidLimits" = some (.ref (He.ga K "InvalidLimits"))
  gc_Limits : mg "Limits" = some (.ref (He.ga K "Limits"))
  kp__law_drawn : PySem.W.keepIn K (.ref ((Ad.g "_law_drawn").at K)) = true
  kp__law_due : PySem.W.keepIn K (.ref ((Ad.g "_law_due").at K)) = true
  kp__law_has : PySem.W.keepIn K (.ref ((Ad.g "_law_has").at K)) = true
  kp__law_is_by : PySem.W.keepIn K (.ref ((Ad.g "_law_is_by").at K)) = true
  kp__law_limits : PySem.W.keepIn K (.ref ((Ad.g "_law_limits").at K)) = true
  kp__law_pick : PySem.W.keepIn K (.ref ((Ad.g "_law_pick").at K)) = true
  kp__law_right : PySem.W.keepIn K (.ref ((Ad.g "_law_right").at K)) = true
  kp__law_toss : PySem.W.keepIn K (.ref ((Ad.g "_law_toss").at K)) = true
  kp__law_urn : PySem.W.keepIn K (.ref ((Ad.g "_law_urn").at K)) = true
  kp_are_below : PySem.W.keepIn K (.ref ((Ad.g "are_below").at K)) = true
  kp_begins_of : PySem.W.keepIn K (.ref ((Ad.g "begins_of").at K)) = true
  kp_greatest_divisor : PySem.W.keepIn K (.ref ((Ad.g "greatest_divisor").at K)) = true
  kp_has_number : PySem.W.keepIn K (.ref ((Ad.g "has_number").at K)) = true
  kp_has_period : PySem.W.keepIn K (.ref ((Ad.g "has_period").at K)) = true
  kp_is_ascending : PySem.W.keepIn K (.ref ((Ad.g "is_ascending").at K)) = true
  kp_is_below : PySem.W.keepIn K (.ref ((Ad.g "is_below").at K)) = true
  kp_is_integer : PySem.W.keepIn K (.ref ((Ad.g "is_integer").at K)) = true
  kp_joined : PySem.W.keepIn K (.ref ((Ad.g "joined").at K)) = true
  kp_least_first : PySem.W.keepIn K (.ref ((Ad.g "least_first").at K)) = true
  kp_least_period : PySem.W.keepIn K (.ref ((Ad.g "least_period").at K)) = true
  kp_require_limits : PySem.W.keepIn K (.ref ((Ad.g "require_limits").at K)) = true
  me_Limits_is_within : Meth K (He.ga K "Limits") "is_within" ((Ad.m "Limits" "is_within").at K)
  mk_Limits : Mk K (He.ga K "Limits") ((Ad.m "Limits" "__init__").at K)
  mx_InvalidLimits : MsgX K "InvalidLimits"
  ne_Limits : NeC K "Limits"
  nf_Limits : ∀ t ∈ tys_Limits, PySem.W.notFirst K (He.ga K "Limits") (t.val K) = true
  tb : TabOk K tabL
  F_is_integer : ∃ fd, FunD K "is_integer" "is_integer" (defArgs s_is_integer) (defBody s_is_integer) (defScope s_is_integer) [] [] ((.g "is_integer" : Ad).at K) fd
  F_is_below : ∃ fd, FunD K "is_below" "is_below" (defArgs s_is_below) (defBody s_is_below) (defScope s_is_below) [] [] ((.g "is_below" : Ad).at K) fd
  F_is_ascending : ∃ fd, FunD K "is_ascending" "is_ascending" (defArgs s_is_ascending) (defBody s_is_ascending) (defScope s_is_ascending) [] [] ((.g "is_ascending" : Ad).at K) fd
  F_are_below : ∃ fd, FunD K "are_below" "are_below" (defArgs s_are_below) (defBody s_are_below) (defScope s_are_below) [] [] ((.g "are_below" : Ad).at K) fd
  F_has_period : ∃ fd, FunD K "has_period" "has_period" (defArgs s_has_period) (defBody s_has_period) (defScope s_has_period) [] [] ((.g "has_period" : Ad).at K) fd
  F_least_period : ∃ fd, FunD K "least_period" "least_period" (defArgs s_least_period) (defBody s_least_period) (defScope s_least_period) [] [] ((.g "least_period" : Ad).at K) fd
  F_least_first : ∃ fd, FunD K "least_first" "least_first" (defArgs s_least_first) (defBody s_least_first) (defScope s_least_first) [] [] ((.g "least_first" : Ad).at K) fd
  F_greatest_divisor : ∃ fd, FunD K "greatest_divisor" "greatest_divisor" (defArgs s_greatest_divisor) (defBody s_greatest_divisor) (defScope s_greatest_divisor) [] [] ((.g "greatest_divisor" : Ad).at K) fd
  F_Limits___init__ : ∃ fd, FunD K "__init__" "Limits.__init__" (defArgs s_Limits___init__) (defBody s_Limits___init__) (defScope s_Limits___init__) [] [] ((.m "Limits" "__init__" : Ad).at K) fd
  F_Limits_every : ∃ fd, FunD K "every" "Limits.every" (defArgs s_Limits_every) (defBody s_Limits_every) (defScope s_Limits_every) [] [] ((.k "Limits" "every" : Ad).at K) fd
  F_Limits_none : ∃ fd, FunD K "none" "Limits.none" (defArgs s_Limits_none) (defBody s_Limits_none) (defScope s_Limits_none) [] [] ((.k "Limits" "none" : Ad).at K) fd
  F_Limits_is_within : ∃ fd, FunD K "is_within" "Limits.is_within" (defArgs s_Limits_is_within) (defBody s_Limits_is_within) (defScope s_Limits_is_within) [] [] ((.m "Limits" "is_within" : Ad).at K) fd
  F_Limits___and__ : ∃ fd, FunD K "__and__" "Limits.__and__" (defArgs s_Limits___and__) (defBody s_Limits___and__) (defScope s_Limits___and__) [] [] ((.m "Limits" "__and__" : Ad).at K) fd
  F_Limits___or__ : ∃ fd, FunD K "__or__" "Limits.__or__" (defArgs s_Limits___or__) (defBody s_Limits___or__) (defScope s_Limits___or__) [] [] ((.m "Limits" "__or__" : Ad).at K) fd
  F_Limits___sub__ : ∃ fd, FunD K "__sub__" "Limits.__sub__" (defArgs s_Limits___sub__) (defBody s_Limits___sub__) (defScope s_Limits___sub__) [] [] ((.m "Limits" "__sub__" : Ad).at K) fd
  F_Limits___xor__ : ∃ fd, FunD K "__xor__" "Limits.__xor__" (defArgs s_Limits___xor__) (defBody s_Limits___xor__) (defScope s_Limits___xor__) [] [] ((.m "Limits" "__xor__" : Ad).at K) fd
  F_Limits___invert__ : ∃ fd, FunD K "__invert__" "Limits.__invert__" (defArgs s_Limits___invert__) (defBody s_Limits___invert__) (defScope s_Limits___invert__) [] [] ((.m "Limits" "__invert__" : Ad).at K) fd
  F_Limits___contains__ : ∃ fd, FunD K "__contains__" "Limits.__contains__" (defArgs s_Limits___contains__) (defBody s_Limits___contains__) (defScope s_Limits___contains__) [] [] ((.m "Limits" "__contains__" : Ad).at K) fd
  F_Limits___bool__ : ∃ fd, FunD K "__bool__" "Limits.__bool__" (defArgs s_Limits___bool__) (defBody s_Limits___bool__) (defScope s_Limits___bool__) [] [] ((.m "Limits" "__bool__" : Ad).at K) fd
  F_Limits___eq__ : ∃ fd, FunD K "__eq__" "Limits.__eq__" (defArgs s_Limits___eq__) (defBody s_Limits___eq__) (defScope s_Limits___eq__) [] [] ((.m "Limits" "__eq__" : Ad).at K) fd
  F_begins_of : ∃ fd, FunD K "begins_of" "begins_of" (defArgs s_begins_of) (defBody s_begins_of) (defScope s_begins_of) [] [] ((.g "begins_of" : Ad).at K) fd
  F_require_limits : ∃ fd, FunD K "require_limits" "require_limits" (defArgs s_require_limits) (defBody s_require_limits) (defScope s_require_limits) [] [] ((.g "require_limits" : Ad).at K) fd
  F_has_number : ∃ fd, FunD K "has_number" "has_number" (defArgs s_has_number) (defBody s_has_number) (defScope s_has_number) [] [] ((.g "has_number" : Ad).at K) fd
  F_joined : ∃ fd, FunD K "joined" "joined" (defArgs s_joined) (defBody s_joined) (defScope s_joined) [] [] ((.g "joined" : Ad).at K) fd
  F__law_urn : ∃ fd, FunD K "_law_urn" "_law_urn" (defArgs s__law_urn) (defBody s__law_urn) (defScope s__law_urn) [] [] ((.g "_law_urn" : Ad).at K) fd
  F__law_toss : ∃ fd, FunD K "_law_toss" "_law_toss" (defArgs s__law_toss) (defBody s__law_toss) (defScope s__law_toss) [] [] ((.g "_law_toss" : Ad).at K) fd
  F__law_pick : ∃ fd, FunD K "_law_pick" "_law_pick" (defArgs s__law_pick) (defBody s__law_pick) (defScope s__law_pick) [] [] ((.g "_law_pick" : Ad).at K) fd
  F__law_drawn : ∃ fd, FunD K "_law_drawn" "_law_drawn" (defArgs s__law_drawn) (defBody s__law_drawn) (defScope s__law_drawn) [] [] ((.g "_law_drawn" : Ad).at K) fd
  F__law_has : ∃ fd, FunD K "_law_has" "_law_has" (defArgs s__law_has) (defBody s__law_has) (defScope s__law_has) [] [] ((.g "_law_has" : Ad).at K) fd
  F__law_limits : ∃ fd, FunD K "_law_limits" "_law_limits" (defArgs s__law_limits) (defBody s__law_limits) (defScope s__law_limits) [] [] ((.g "_law_limits" : Ad).at K) fd
  F__law_due : ∃ fd, FunD K "_law_due" "_law_due" (defArgs s__law_due) (defBody s__law_due) (defScope s__law_due) [] [] ((.g "_law_due" : Ad).at K) fd
  F__law_is_by : ∃ fd, FunD K "_law_is_by" "_law_is_by" (defArgs s__law_is_by) (defBody s__law_is_by) (defScope s__law_is_by) [] [] ((.g "_law_is_by" : Ad).at K) fd
  F__law_right : ∃ fd, FunD K "_law_right" "_law_right" (defArgs s__law_right) (defBody s__law_right) (defScope s__law_right) [] [] ((.g "_law_right" : Ad).at K) fd
  F_law : ∃ fd, FunD K "law" "law" (defArgs s_law) (defBody s_law) (defScope s_law) [] [] ((.g "law" : Ad).at K) fd
section
variable {P : Program} {w : World} {K : Frag} {mg : Str → Option Value}
abbrev P_is_integer (P : Program) (w : World) (K : Frag) (mg : Str → Option Value) : Prop := ∀ base : Heap, FnG P w K mg base (CX P w) 1 1 ((.g "is_integer" : Ad).at K) (spM K 1 f_is_integer)
abbrev P_is_ascending (P : Program) (w : World) (K : Frag) (mg : Str → Option Value) : Prop := ∀ base : Heap, FnG P w K mg base (CX P w) 1 1 ((.g "is_ascending" : Ad).at K) (spM K 1 f_is_ascending)
abbrev P_has_period (P : Program) (w : World) (K : Frag) (mg : Str → Option Value) : Prop := ∀ base : Heap, FnG P w K mg base (CX P w) 1 3 ((.g "has_period" : Ad).at K) (spM K 3 f_has_period)
abbrev P_least_first (P : Program) (w : World) (K : Frag) (mg : Str → Option Value) : Prop := ∀ base : Heap, FnG P w K mg base (CX P w) 1 4 ((.g "least_first" : Ad).at K) (spM K 4 f_least_first)
abbrev P_greatest_divisor (P : Program) (w : World) (K : Frag) (mg : Str → Option Value) : Prop := ∀ base : Heap, FnG P w K mg base (CX P w) 1 2 ((.g "greatest_divisor" : Ad).at K) (spM K 2 f_greatest_divisor)
abbrev P_Limits___bool__ (P : Program) (w : World) (K : Frag) (mg : Str → Option Value) : Prop := ∀ base : Heap, FnG P w K mg base (CX P w) 1 1 ((.m "Limits" "__bool__" : Ad).at K) (spM K 1 f_Limits___bool__)
abbrev P_Limits___eq__ (P : Program) (w : World) (K : Frag) (mg : Str → Option Value) : Prop := ∀ base : Heap, FnG P w K mg base (CX P w) 1 2 ((.m "Limits" "__eq__" : Ad).at K) (spM K 2 f_Limits___eq__)
abbrev P_begins_of (P : Program) (w : World) (K : Frag) (mg : Str → Option Value) : Prop := ∀ base : Heap, FnG P w K mg base (CX P w) 1 3 ((.g "begins_of" : Ad).at K) (spM K 3 f_begins_of)
abbrev P_require_limits (P : Program) (w : World) (K : Frag) (mg : Str → Option Value) : Prop := ∀ base : Heap, FnG P w K mg base (CX P w) 1 1 ((.g "require_limits" : Ad).at K) (spM K 1 f_require_limits)
abbrev P_has_number (P : Program) (w : World) (K : Frag) (mg : Str → Option Value) : Prop := ∀ base : Heap, FnG P w K mg base (CX P w) 1 2 ((.g "has_number" : Ad).at K) (spM K 2 f_has_number)
abbrev P__law_urn (P : Program) (w : World) (K : Frag) (mg : Str → Option Value) : Prop := ∀ base : Heap, FnG P w K mg base (CX P w) 1 2 ((.g "_law_urn" : Ad).at K) (spM K 2 f__law_urn)
abbrev P__law_toss (P : Program) (w : World) (K : Frag) (mg : Str → Option Value) : Prop := ∀ base : Heap, FnG P w K mg base (CX P w) 1 2 ((.g "_law_toss" : Ad).at K) (spM K 2 f__law_toss)
abbrev P__law_has (P : Program) (w : World) (K : Frag) (mg : Str → Option Value) : Prop := ∀ base : Heap, FnG P w K mg base (CX P w) 1 2 ((.g "_law_has" : Ad).at K) (spM K 2 f__law_has)
abbrev P__law_due (P : Program) (w : World) (K : Frag) (mg : Str → Option Value) : Prop := ∀ base : Heap, FnG P w K mg base (CX P w) 1 3 ((.g "_law_due" : Ad).at K) (spM K 3 f__law_due)
abbrev P_is_below (P : Program) (w : World) (K : Frag) (mg : Str → Option Value) : Prop := ∀ base : Heap, FnG P w K mg base (CX P w) 2 2 ((.g "is_below" : Ad).at K) (spM K 2 f_is_below)
abbrev P_least_period (P : Program) (w : World) (K : Frag) (mg : Str → Option Value) : Prop := ∀ base : Heap, FnG P w K mg base (CX P w) 2 2 ((.g "least_period" : Ad).at K) (spM K 2 f_least_period)
abbrev P_Limits___contains__ (P : Program) (w : World) (K : Frag) (mg : Str → Option Value) : Prop := ∀ base : Heap, FnG P w K mg base (CX P w) 2 2 ((.m "Limits" "__contains__" : Ad).at K) (spM K 2 f_Limits___contains__)
abbrev P__law_pick (P : Program) (w : World) (K : Frag) (mg : Str → Option Value) : Prop := ∀ base : Heap, FnG P w K mg base (CX P w) 2 2 ((.g "_law_pick" : Ad).at K) (spM K 2 f__law_pick)
abbrev P_are_below (P : Program) (w : World) (K : Frag) (mg : Str → Option Value) : Prop := ∀ base : Heap, FnG P w K mg base (CX P w) 3 2 ((.g "are_below" : Ad).at K) (spM K 2 f_are_below)
abbrev P__law_drawn (P : Program) (w : World) (K : Frag) (mg : Str → Option Value) : Prop := ∀ base : Heap, FnG P w K mg base (CX P w) 3 1 ((.g "_law_drawn" : Ad).at K) (spM K 1 f__law_drawn)
abbrev P__law_is_by (P : Program) (w : World) (K : Frag) (mg : Str → Option Value) : Prop := ∀ base : Heap, FnG P w K mg base (CX P w) 3 3 ((.g "_law_is_by" : Ad).at K) (spM K 3 f__law_is_by)
abbrev P_Limits___init__ (P : Program) (w : World) (K : Frag) (mg : Str → Option Value) : Prop := ∀ base : Heap, FnG P w K mg base (CX P w) 4 5 ((.m "Limits" "__init__" : Ad).at K) (spM K 5 f_Limits___init__)
abbrev P_Limits_every (P : Program) (w : World) (K : Frag) (mg : Str → Option Value) : Prop := ∀ base : Heap, FnG P w K mg base (CX P w) 6 1 ((.k "Limits" "every" : Ad).at K) (spM K 1 f_Limits_every)
abbrev P_Limits_none (P : Program) (w : World) (K : Frag) (mg : Str → Option Value) : Prop := ∀ base : Heap, FnG P w K mg base (CX P w) 6 1 ((.k "Limits" "none" : Ad).at K) (spM K 1 f_Limits_none)
abbrev P_Limits___invert__ (P : Program) (w : World) (K : Frag) (mg : Str → Option Value) : Prop := ∀ base : Heap, FnG P w K mg base (CX P w) 6 1 ((.m "Limits" "__invert__" : Ad).at K) (spM K 1 f_Limits___invert__)
abbrev P_joined (P : Program) (w : World) (K : Frag) (mg : Str → Option Value) : Prop := ∀ base : Heap, FnG P w K mg base (CX P w) 6 3 ((.g "joined" : Ad).at K) (spM K 3 f_joined)
abbrev P__law_limits (P : Program) (w : World) (K : Frag) (mg : Str → Option Value) : Prop := ∀ base : Heap, FnG P w K mg base (CX P w) 6 1 ((.g "_law_limits" : Ad).at K) (spM K 1 f__law_limits)
abbrev P_Limits_is_within (P : Program) (w : World) (K : Frag) (mg : Str → Option Value) : Prop := ∀ base : Heap, FnG P w K mg base (CX P w) 7 2 ((.m "Limits" "is_within" : Ad).at K) (spM K 2 f_Limits_is_within)
abbrev P_Limits___and__ (P : Program) (w : World) (K : Frag) (mg : Str → Option Value) : Prop := ∀ base : Heap, FnG P w K mg base (CX P w) 7 2 ((.m "Limits" "__and__" : Ad).at K) (spM K 2 f_Limits___and__)
abbrev P_Limits___or__ (P : Program) (w : World) (K : Frag) (mg : Str → Option Value) : Prop := ∀ base : Heap, FnG P w K mg base (CX P w) 7 2 ((.m "Limits" "__or__" : Ad).at K) (spM K 2 f_Limits___or__)
abbrev P_Limits___sub__ (P : Program) (w : World) (K : Frag) (mg : Str → Option Value) : Prop := ∀ base : Heap, FnG P w K mg base (CX P w) 7 2 ((.m "Limits" "__sub__" : Ad).at K) (spM K 2 f_Limits___sub__)
abbrev P_Limits___xor__ (P : Program) (w : World) (K : Frag) (mg : Str → Option Value) : Prop := ∀ base : Heap, FnG P w K mg base (CX P w) 7 2 ((.m "Limits" "__xor__" : Ad).at K) (spM K 2 f_Limits___xor__)
abbrev P__law_right (P : Program) (w : World) (K : Frag) (mg : Str → Option Value) : Prop := ∀ base : Heap, FnG P w K mg base (CX P w) 8 1 ((.g "_law_right" : Ad).at K) (spM K 1 f__law_right)
abbrev P_law (P : Program) (w : World) (K : Frag) (mg : Str → Option Value) : Prop := ∀ base : Heap, FnG P w K mg base (CX P w) 9 1 ((.g "law" : Ad).at K) (spM K 1 f_law)
set_option maxHeartbeats 4000000 in
theorem ok_is_integer (T : Txt0 K mg) : P_is_integer P w K mg := by
  obtain ⟨t_TOP, q_TOP⟩ := T.c_TOP
  obtain ⟨fd, F⟩ := T.F_is_integer
  intro base
  refine fn_okD F (F.bindsN fun _ _ _ _ _ _ us hl => match us, hl with | [_], _ => by kernel_rfl) sc_is_integer fun cdv A outer s H E hr => ?_
  have hu := hr.room.units
  exact ms_one (ms_ret (me_and (me_callB (cm_isiX T.cf T.tb) rfl T.z_isinstance (by decide +kernel) (ma_cons (me_var 0) (ma_cons (me_ty rfl T.z_int (by decide +kernel)) (ma_nil)))) (me_and (me_not (me_callB (cm_isiX T.cf T.tb) rfl T.z_isinstance (by decide +kernel) (ma_cons (me_var 0) (ma_cons (me_ty rfl T.z_bool (by decide +kernel)) (ma_nil))))) (me_one (me_chain om_lt om_lt (me_un um_neg (me_gint rfl q_TOP)) (me_var 0) (me_gint rfl q_TOP))))))
set_option maxHeartbeats 4000000 in
theorem ok_is_ascending (T : Txt0 K mg) : P_is_ascending P w K mg := by
  obtain ⟨fd, F⟩ := T.F_is_ascending
  intro base
  refine fn_okD F (F.bindsN fun _ _ _ _ _ _ us hl => match us, hl with | [_], _ => by kernel_rfl) sc_is_ascending fun cdv A outer s H E hr => ?_
  have hu := hr.room.units
  exact ms_one (ms_ret (me_callB (cm_all rfl) rfl T.z_all (by decide +kernel) (ma_cons (me_new (mn_lc [("one", 1), ("other", 2)] rfl sc_is_ascending.nd (mi_zip rfl T.z_zip (ma_cons (me_var 0) (ma_cons (me_sl (me_var 0) (mo_some (me_int)) (mo_none)) (ma_nil)))) (blkOk_by (N := N_is_ascending) (sc := defScope s_is_ascending) (by decide +kernel)) (fun _ _ _ _ _ => mg_tup rfl (mgs_cons (mg_name (i := 1) sc_is_ascending.nd rfl (by first | exact Or.inl rfl | exact Or.inr rfl)) (mgs_cons (mg_name (i := 2) sc_is_ascending.nd rfl (by first | exact Or.inl rfl | exact Or.inr rfl)) (mgs_nil)))) (fun _ _ _ _ _ => mts_nil) (fun _ _ _ _ _ => me_cmp om_lt (me_var 1) (me_var 2)))) (ma_nil))))
set_option maxHeartbeats 4000000 in
theorem ok_has_period (T : Txt0 K mg) : P_has_period P w K mg := by
  obtain ⟨fd, F⟩ := T.F_has_period
  intro base
  refine fn_okD F (F.bindsN fun _ _ _ _ _ _ us hl => match us, hl with | [_, _, _], _ => by kernel_rfl) sc_has_period fun cdv A outer s H E hr => ?_
  have hu := hr.room.units
  exact ms_cons (ms_set (i := 3) sc_has_period.nd rfl (by first | exact Or.inl rfl | exact Or.inr rfl) (me_dc [("rest", 4)] rfl sc_has_period.nd (mi_any (me_var 0)) (blkOk_by (N := N_has_period) (sc := defScope s_has_period) (by decide +kernel)) (fun _ _ _ _ _ => mg_name (i := 4) sc_has_period.nd rfl (by first | exact Or.inl rfl | exact Or.inr rfl)) (fun _ _ _ _ _ => mts_nil) (fun _ _ _ _ _ => me_var 4) (fun _ _ _ _ _ => me_bl))) (ms_one (ms_ret (me_callB (cm_all rfl) rfl T.z_all (by decide +kernel) (ma_cons (me_new (mn_lc [("rest", 4)] rfl sc_has_period.nd (mi_range1 rfl T.z_range (ma_cons (me_var 1) (ma_nil)) (ln_cons (ln_nil))) (blkOk_by (N := N_has_period) (sc := defScope s_has_period) (by decide +kernel)) (fun _ _ _ _ _ => mg_name (i := 4) sc_has_period.nd rfl (by first | exact Or.inl rfl | exact Or.inr rfl)) (fun _ _ _ _ _ => mts_nil) (fun _ _ _ _ _ => me_cmp (om_eqX hu) (me_cmp (om_in2 hu) (me_var 4) (me_var 3)) (me_cmp (om_in2 hu) (me_op om_mod (me_op om_add (me_var 4) (me_var 2)) (me_var 1)) (me_var 3))))) (ma_nil)))))
set_option maxHeartbeats 4000000 in
theorem ok_least_first (T : Txt0 K mg) : P_least_first P w K mg := by
  obtain ⟨fd, F⟩ := T.F_least_first
  intro base
  refine fn_okD F (F.bindsN fun _ _ _ _ _ _ us hl => match us, hl with | [_, _, _, _], _ => by kernel_rfl) sc_least_first fun cdv A outer s H E hr => ?_
  have hu := hr.room.units
  exact ms_cons (ms_par (i := 5) (j := 6) rfl sc_least_first.nd rfl rfl (by decide) rfl rfl (ma_cons (me_dc [("number", 7)] rfl sc_least_first.nd (mi_any (me_var 0)) (blkOk_by (N := N_least_first) (sc := defScope s_least_first) (by decide +kernel)) (fun _ _ _ _ _ => mg_name (i := 7) sc_least_first.nd rfl (by first | exact Or.inl rfl | exact Or.inr rfl)) (fun _ _ _ _ _ => mts_nil) (fun _ _ _ _ _ => me_var 7) (fun _ _ _ _ _ => me_bl)) (ma_cons (me_dc [("rest", 8)] rfl sc_least_first.nd (mi_any (me_var 3)) (blkOk_by (N := N_least_first) (sc := defScope s_least_first) (by decide +kernel)) (fun _ _ _ _ _ => mg_name (i := 8) sc_least_first.nd rfl (by first | exact Or.inl rfl | exact Or.inr rfl)) (fun _ _ _ _ _ => mts_nil) (fun _ _ _ _ _ => me_var 8) (fun _ _ _ _ _ => me_bl)) (ma_nil)))) (ms_cons (ms_for (by first | exact passes_of rfl | assumption) rfl (mi_range3 rfl T.z_range (ma_cons (me_op om_sub (me_var 1) (me_int)) (ma_cons (me_un um_neg (me_int)) (ma_cons (me_un um_neg (me_int)) (ma_nil))))) (mg_name (i := 4) sc_least_first.nd rfl (by first | exact Or.inl rfl | exact Or.inr rfl)) (ms_one (ms_if (mt_cmp (om_neX hu) (me_cmp (om_in2 hu) (me_var 4) (me_var 5)) (me_cmp (om_in2 hu) (me_op om_mod (me_var 4) (me_var 2)) (me_var 6))) (ms_one (ms_ret (me_op om_add (me_var 4) (me_int)))) (ms_nil)))) (ms_one (ms_ret (me_int))))
set_option maxHeartbeats 4000000 in
theorem ok_greatest_divisor (T : Txt0 K mg) : P_greatest_divisor P w K mg := by
  obtain ⟨fd, F⟩ := T.F_greatest_divisor
  intro base
  refine fn_okD F (F.bindsN fun _ _ _ _ _ _ us hl => match us, hl with | [_, _], _ => by kernel_rfl) sc_greatest_divisor fun cdv A outer s H E hr => ?_
  have hu := hr.room.units
  exact ms_cons (ms_while 100000 (by first | exact passes_of rfl | assumption) (mt_cmp (om_neX hu) (me_var 1) (me_int)) (ms_one (ms_par (i := 0) (j := 1) rfl sc_greatest_divisor.nd rfl rfl (by decide) rfl rfl (ma_cons (me_var 1) (ma_cons (me_op om_mod (me_var 0) (me_var 1)) (ma_nil)))))) (ms_one (ms_ret (me_var 0)))
set_option maxHeartbeats 4000000 in
theorem ok_Limits___bool__ (T : Txt0 K mg) : P_Limits___bool__ P w K mg := by
  obtain ⟨fd, F⟩ := T.F_Limits___bool__
  intro base
  refine fn_okD F (F.bindsN fun _ _ _ _ _ _ us hl => match us, hl with | [_], _ => by kernel_rfl) sc_Limits___bool__ fun cdv A outer s H E hr => ?_
  have hu := hr.room.units
  exact ms_one (ms_ret (me_cmp om_gt (me_op om_add (me_callB (cm_len) rfl T.z_len (by decide +kernel) (ma_cons (me_fld (me_var 0) (fld_cons T.fl_Limits_own_few (fld_nil))) (ma_nil))) (me_callB (cm_len) rfl T.z_len (by decide +kernel) (ma_cons (me_fld (me_var 0) (fld_cons T.fl_Limits_own_rests (fld_nil))) (ma_nil)))) (me_int)))
set_option maxHeartbeats 4000000 in
theorem ok_Limits___eq__ (T : Txt0 K mg) : P_Limits___eq__ P w K mg := by
  obtain ⟨fd, F⟩ := T.F_Limits___eq__
  intro base
  refine fn_okD F (F.bindsN fun _ _ _ _ _ _ us hl => match us, hl with | [_, _], _ => by kernel_rfl) sc_Limits___eq__ fun cdv A outer s H E hr => ?_
  have hu := hr.room.units
  exact ms_one (ms_ret (me_and (me_callB (cm_isiX T.cf T.tb) rfl T.z_isinstance (by decide +kernel) (ma_cons (me_var 1) (ma_cons (me_glob (v := .ref _) rfl T.gc_Limits rfl (fun _ => .cls _)) (ma_nil)))) (me_and (me_cmp (om_eqX hu) (me_fld (me_var 0) (fld_cons T.fl_Limits_own_few (fld_nil))) (me_fld (me_var 1) (fld_cons T.fl_Limits_own_few (fld_nil)))) (me_and (me_cmp (om_eqX hu) (me_fld (me_var 0) (fld_cons T.fl_Limits_own_first (fld_nil))) (me_fld (me_var 1) (fld_cons T.fl_Limits_own_first (fld_nil)))) (me_and (me_cmp (om_eqX hu) (me_fld (me_var 0) (fld_cons T.fl_Limits_own_period (fld_nil))) (me_fld (me_var 1) (fld_cons T.fl_Limits_own_period (fld_nil)))) (me_one (me_cmp (om_eqX hu) (me_fld (me_var 0) (fld_cons T.fl_Limits_own_rests (fld_nil))) (me_fld (me_var 1) (fld_cons T.fl_Limits_own_rests (fld_nil))))))))))
set_option maxHeartbeats 4000000 in
theorem ok_begins_of (T : Txt0 K mg) : P_begins_of P w K mg := by
  obtain ⟨fd, F⟩ := T.F_begins_of
  intro base
  refine fn_okD F (F.bindsN fun _ _ _ _ _ _ us hl => match us, hl with | [_, _, _], _ => by kernel_rfl) sc_begins_of fun cdv A outer s H E hr => ?_
  have hu := hr.room.units
  exact ms_one (ms_ret (me_callTy (cm_tuple) rfl T.z_tuple (by decide +kernel) (ma_cons (me_new (mn_callB cn_sorted rfl T.z_sorted (by decide +kernel) (ma_cons (me_new (mn_lc [("rest", 3)] rfl sc_begins_of.nd (mi_any (me_var 2)) (blkOk_by (N := N_begins_of) (sc := defScope s_begins_of) (by decide +kernel)) (fun _ _ _ _ _ => mg_name (i := 3) sc_begins_of.nd rfl (by first | exact Or.inl rfl | exact Or.inr rfl)) (fun _ _ _ _ _ => mts_nil) (fun _ _ _ _ _ => me_op om_add (me_var 0) (me_op om_mod (me_op om_sub (me_var 3) (me_var 0)) (me_var 1))))) (ma_nil)))) (ma_nil))))
set_option maxHeartbeats 4000000 in
theorem ok_require_limits (T : Txt0 K mg) : P_require_limits P w K mg := by
  obtain ⟨fd, F⟩ := T.F_require_limits
  intro base
  refine fn_okD F (F.bindsN fun _ _ _ _ _ _ us hl => match us, hl with | [_], _ => by kernel_rfl) sc_require_limits fun cdv A outer s H E hr => ?_
  have hu := hr.room.units
  exact ms_one (ms_if (mt_not (mt_val (me_callB (cm_isiX T.cf T.tb) rfl T.z_isinstance (by decide +kernel) (ma_cons (me_var 0) (ma_cons (me_glob (v := .ref _) rfl T.gc_Limits rfl (fun _ => .cls _)) (ma_nil)))))) (ms_one (ms_rz rfl T.mx_InvalidLimits T.gc_InvalidLimits (by first | exact erOk_def | exact erOk0 | assumption) rfl)) (ms_nil))
set_option maxHeartbeats 4000000 in
theorem ok_has_number (T : Txt0 K mg) : P_has_number P w K mg := by
  obtain ⟨fd, F⟩ := T.F_has_number
  intro base
  refine fn_okD F (F.bindsN fun _ _ _ _ _ _ us hl => match us, hl with | [_, _], _ => by kernel_rfl) sc_has_number fun cdv A outer s H E hr => ?_
  have hu := hr.room.units
  exact ms_cons (ms_if (mt_cmp om_lt (me_var 1) (me_fld (me_var 0) (fld_cons T.fl_Limits_own_first (fld_nil)))) (ms_one (ms_ret (me_cmp (om_in2 hu) (me_var 1) (me_fld (me_var 0) (fld_cons T.fl_Limits_own_few (fld_nil)))))) (ms_nil)) (ms_one (ms_ret (me_cmp (om_in2 hu) (me_op om_mod (me_var 1) (me_fld (me_var 0) (fld_cons T.fl_Limits_own_period (fld_nil)))) (me_fld (me_var 0) (fld_cons T.fl_Limits_own_rests (fld_nil))))))
set_option maxHeartbeats 4000000 in
theorem ok__law_urn (T : Txt0 K mg) : P__law_urn P w K mg := by
  obtain ⟨fd, F⟩ := T.F__law_urn
  intro base
  refine fn_okD F (F.bindsN fun _ _ _ _ _ _ us hl => match us, hl with | [_, _], _ => by kernel_rfl) sc__law_urn fun cdv A outer s H E hr => ?_
  have hu := hr.room.units
  exact ms_cons (ms_set (i := 2) sc__law_urn.nd rfl (by first | exact Or.inl rfl | exact Or.inr rfl) (me_if (mt_cmp om_lt (me_var 1) (me_callB (cm_len) rfl T.z_len (by decide +kernel) (ma_cons (me_var 0) (ma_nil)))) (me_ix (me_var 0) (me_var 1)) (me_op om_add (me_op om_mul (me_int) (me_var 1)) (me_int)))) (ms_cons (ms_set (i := 3) sc__law_urn.nd rfl (by first | exact Or.inl rfl | exact Or.inr rfl) (me_op om_mod (me_callTy (cm_int) rfl T.z_int (by decide +kernel) (ma_cons (me_callB (cm_abs) rfl T.z_abs (by decide +kernel) (ma_cons (me_var 2) (ma_nil))) (ma_nil))) (me_op om_pow (me_op om_pow (me_int) (me_int)) (me_int)))) (ms_cons (ms_set (i := 4) sc__law_urn.nd rfl (by first | exact Or.inl rfl | exact Or.inr rfl) (me_op om_mod (me_callTy (cm_int) rfl T.z_int (by decide +kernel) (ma_cons (me_op om_add (me_op om_add (me_op om_add (me_op om_mul (me_var 3) (me_int)) (me_op om_mul (me_int) (me_var 1))) (me_op om_mul (me_int) (me_callTy (cm_int) rfl T.z_int (by decide +kernel) (ma_cons (me_cmp om_lt (me_var 2) (me_int)) (ma_nil))))) (me_int)) (ma_nil))) (me_int))) (ms_one (ms_ret (me_cell (ma_cons (me_callB (cm_max rfl) rfl T.z_max (by decide +kernel) (ma_cons (me_int) (ma_cons (me_op om_sub (me_var 3) (me_op om_pow (me_int) (me_int))) (ma_nil)))) (ma_cons (me_var 4) (ma_cons (me_int) (ma_nil)))))))))
set_option maxHeartbeats 4000000 in
theorem ok__law_toss (T : Txt0 K mg) : P__law_toss P w K mg := by
  obtain ⟨fd, F⟩ := T.F__law_toss
  intro base
  refine fn_okD F (F.bindsN fun _ _ _ _ _ _ us hl => match us, hl with | [_, _], _ => by kernel_rfl) sc__law_toss fun cdv A outer s H E hr => ?_
  have hu := hr.room.units
  exact ms_cons (ms_if (mt_cmp om_gt (me_ix (me_var 0) (me_int)) (me_int)) (ms_cons (ms_set (i := 4) sc__law_toss.nd rfl (by first | exact Or.inl rfl | exact Or.inr rfl) (me_op om_mod (me_callTy (cm_int) rfl T.z_int (by decide +kernel) (ma_cons (me_ix (me_var 0) (me_int)) (ma_nil))) (me_var 1))) (ms_cons (ms_put (me_op om_div (me_ix (me_var 0) (me_int)) (me_var 1)) (me_var 0) (me_int)) (ms_one (ms_ret (me_var 4))))) (ms_nil)) (ms_cons (ms_put (me_op om_add (me_ix (me_var 0) (me_int)) (me_int)) (me_var 0) (me_int)) (ms_cons (ms_set (i := 2) sc__law_toss.nd rfl (by first | exact Or.inl rfl | exact Or.inr rfl) (me_op om_mod (me_callTy (cm_int) rfl T.z_int (by decide +kernel) (ma_cons (me_op om_add (me_ix (me_var 0) (me_int)) (me_op om_mul (me_int) (me_ix (me_var 0) (me_int)))) (ma_nil))) (me_int))) (ms_cons (ms_set (i := 3) sc__law_toss.nd rfl (by first | exact Or.inl rfl | exact Or.inr rfl) (me_op om_add (me_op om_mul (me_op om_mod (me_callTy (cm_int) rfl T.z_int (by decide +kernel) (ma_cons (me_op om_mul (me_var 2) (me_var 2)) (ma_nil))) (me_int)) (me_var 2)) (me_op om_mul (me_int) (me_ix (me_var 0) (me_int))))) (ms_one (ms_ret (me_op om_mod (me_callTy (cm_int) rfl T.z_int (by decide +kernel) (ma_cons (me_op om_div (me_op om_mod (me_callTy (cm_int) rfl T.z_int (by decide +kernel) (ma_cons (me_op om_add (me_var 3) (me_ix (me_var 0) (me_int))) (ma_nil))) (me_int)) (me_int)) (ma_nil))) (me_var 1)))))))
set_option maxHeartbeats 4000000 in
theorem ok__law_has (T : Txt0 K mg) : P__law_has P w K mg := by
  obtain ⟨fd, F⟩ := T.F__law_has
  intro base
  refine fn_okD F (F.bindsN fun _ _ _ _ _ _ us hl => match us, hl with | [_, _], _ => by kernel_rfl) sc__law_has fun cdv A outer s H E hr => ?_
  have hu := hr.room.units
  exact ms_one (ms_ret (me_if (mt_cmp om_lt (me_var 1) (me_ix (me_var 0) (me_int))) (me_cmp (om_in2 hu) (me_var 1) (me_ix (me_var 0) (me_int))) (me_cmp (om_in2 hu) (me_op om_mod (me_var 1) (me_ix (me_var 0) (me_int))) (me_ix (me_var 0) (me_int)))))
set_option maxHeartbeats 4000000 in
theorem ok__law_due (T : Txt0 K mg) : P__law_due P w K mg := by
  obtain ⟨fd, F⟩ := T.F__law_due
  intro base
  refine fn_okD F (F.bindsN fun _ _ _ _ _ _ us hl => match us, hl with | [_, _, _], _ => by kernel_rfl) sc__law_due fun cdv A outer s H E hr => ?_
  have hu := hr.room.units
  exact ms_cons (ms_if (mt_cmp (om_eqX hu) (me_var 0) (me_str)) (ms_one (ms_ret (me_and (me_var 1) (me_one (me_var 2))))) (ms_nil)) (ms_cons (ms_if (mt_cmp (om_eqX hu) (me_var 0) (me_str)) (ms_one (ms_ret (me_or (me_var 1) (me_one (me_var 2))))) (ms_nil)) (ms_one (ms_ret (me_if (mt_cmp (om_eqX hu) (me_var 0) (me_str)) (me_cmp (om_neX hu) (me_var 1) (me_var 2)) (me_and (me_var 1) (me_one (me_not (me_var 2))))))))
set_option maxHeartbeats 4000000 in
theorem ok_is_below (T : Txt0 K mg) (D_is_integer : P_is_integer P w K mg) : P_is_below P w K mg := by
  obtain ⟨fd, F⟩ := T.F_is_below
  intro base
  refine fn_okD F (F.bindsN fun _ _ _ _ _ _ us hl => match us, hl with | [_, _], _ => by kernel_rfl) sc_is_below fun cdv A outer s H E hr => ?_
  have hu := hr.room.units
  exact ms_one (ms_ret (me_and (me_call (D_is_integer base) (by first | exact erOk_def | exact erOk0 | assumption) (hr.mono (by decide)) rfl T.g_is_integer T.kp_is_integer (ma_cons (me_var 0) (ma_nil)) (ln_cons (ln_nil))) (me_one (me_chain om_le om_lt (me_int) (me_var 0) (me_var 1)))))
set_option maxHeartbeats 4000000 in
theorem ok_least_period (T : Txt0 K mg) (D_has_period : P_has_period P w K mg) : P_least_period P w K mg := by
  obtain ⟨fd, F⟩ := T.F_least_period
  intro base
  refine fn_okD F (F.bindsN fun _ _ _ _ _ _ us hl => match us, hl with | [_, _], _ => by kernel_rfl) sc_least_period fun cdv A outer s H E hr => ?_
  have hu := hr.room.units
  exact ms_one (ms_ret (me_callB (cm_minL rfl) rfl T.z_min (by decide +kernel) (ma_cons (me_new (mn_lc [("less", 2)] rfl sc_least_period.nd (mi_range2 rfl T.z_range (ma_cons (me_int) (ma_cons (me_op om_add (me_var 1) (me_int)) (ma_nil))) (ln_cons (ln_cons (ln_nil)))) (blkOk_by (N := N_least_period) (sc := defScope s_least_period) (by decide +kernel)) (fun _ _ _ _ _ => mg_name (i := 2) sc_least_period.nd rfl (by first | exact Or.inl rfl | exact Or.inr rfl)) (fun _ _ _ _ _ => mts_one (mt_w (mw_and (mt_cmp (om_eqX hu) (me_op om_mod (me_var 1) (me_var 2)) (me_int)) (mw_and1 (mt_val (me_call (D_has_period base) (by first | exact erOk_def | exact erOk0 | assumption) (hr.mono (by decide)) rfl T.g_has_period T.kp_has_period (ma_cons (me_var 0) (ma_cons (me_var 1) (ma_cons (me_var 2) (ma_nil)))) (ln_cons (ln_cons (ln_cons (ln_nil)))))))))) (fun _ _ _ _ _ => me_var 2))) (ma_nil))))
set_option maxHeartbeats 4000000 in
theorem ok_Limits___contains__ (T : Txt0 K mg) (D_is_integer : P_is_integer P w K mg) (D_has_number : P_has_number P w K mg) : P_Limits___contains__ P w K mg := by
  obtain ⟨fd, F⟩ := T.F_Limits___contains__
  intro base
  refine fn_okD F (F.bindsN fun _ _ _ _ _ _ us hl => match us, hl with | [_, _], _ => by kernel_rfl) sc_Limits___contains__ fun cdv A outer s H E hr => ?_
  have hu := hr.room.units
  exact ms_one (ms_ret (me_and (me_call (D_is_integer base) (by first | exact erOk_def | exact erOk0 | assumption) (hr.mono (by decide)) rfl T.g_is_integer T.kp_is_integer (ma_cons (me_var 1) (ma_nil)) (ln_cons (ln_nil))) (me_and (me_cmp om_ge (me_var 1) (me_int)) (me_one (me_call (D_has_number base) (by first | exact erOk_def | exact erOk0 | assumption) (hr.mono (by decide)) rfl T.g_has_number T.kp_has_number (ma_cons (me_var 0) (ma_cons (me_var 1) (ma_nil))) (ln_cons (ln_cons (ln_nil))))))))
set_option maxHeartbeats 4000000 in
theorem ok__law_pick (T : Txt0 K mg) (D__law_toss : P__law_toss P w K mg) : P__law_pick P w K mg := by
  obtain ⟨fd, F⟩ := T.F__law_pick
  intro base
  refine fn_okD F (F.bindsN fun _ _ _ _ _ _ us hl => match us, hl with | [_, _], _ => by kernel_rfl) sc__law_pick fun cdv A outer s H E hr => ?_
  have hu := hr.room.units
  exact ms_one (ms_ret (me_ix (me_var 1) (me_call (D__law_toss base) (by first | exact erOk_def | exact erOk0 | assumption) (hr.mono (by decide)) rfl T.g__law_toss T.kp__law_toss (ma_cons (me_var 0) (ma_cons (me_callB (cm_len) rfl T.z_len (by decide +kernel) (ma_cons (me_var 1) (ma_nil))) (ma_nil))) (ln_cons (ln_cons (ln_nil))))))
set_option maxHeartbeats 4000000 in
theorem ok_are_below (T : Txt0 K mg) (D_is_ascending : P_is_ascending P w K mg) (D_is_below : P_is_below P w K mg) : P_are_below P w K mg := by
  obtain ⟨fd, F⟩ := T.F_are_below
  intro base
  refine fn_okD F (F.bindsN fun _ _ _ _ _ _ us hl => match us, hl with | [_, _], _ => by kernel_rfl) sc_are_below fun cdv A outer s H E hr => ?_
  have hu := hr.room.units
  exact ms_one (ms_ret (me_and (me_callB (cm_isiX T.cf T.tb) rfl T.z_isinstance (by decide +kernel) (ma_cons (me_var 0) (ma_cons (me_ty rfl T.z_tuple (by decide +kernel)) (ma_nil)))) (me_and (me_callB (cm_all rfl) rfl T.z_all (by decide +kernel) (ma_cons (me_new (mn_lc [("one", 2)] rfl sc_are_below.nd (mi_any (me_var 0)) (blkOk_by (N := N_are_below) (sc := defScope s_are_below) (by decide +kernel)) (fun _ _ _ _ _ => mg_name (i := 2) sc_are_below.nd rfl (by first | exact Or.inl rfl | exact Or.inr rfl)) (fun _ _ _ _ _ => mts_nil) (fun _ _ _ _ _ => me_call (D_is_below base) (by first | exact erOk_def | exact erOk0 | assumption) (hr.mono (by decide)) rfl T.g_is_below T.kp_is_below (ma_cons (me_var 2) (ma_cons (me_var 1) (ma_nil))) (ln_cons (ln_cons (ln_nil)))))) (ma_nil))) (me_one (me_call (D_is_ascending base) (by first | exact erOk_def | exact erOk0 | assumption) (hr.mono (by decide)) rfl T.g_is_ascending T.kp_is_ascending (ma_cons (me_var 0) (ma_nil)) (ln_cons (ln_nil)))))))
set_option maxHeartbeats 4000000 in
theorem ok__law_drawn (T : Txt0 K mg) (D__law_toss : P__law_toss P w K mg) (D__law_pick : P__law_pick P w K mg) : P__law_drawn P w K mg := by
  obtain ⟨fd, F⟩ := T.F__law_drawn
  intro base
  refine fn_okD F (F.bindsN fun _ _ _ _ _ _ us hl => match us, hl with | [_], _ => by kernel_rfl) sc__law_drawn fun cdv A outer s H E hr => ?_
  have hu := hr.room.units
  exact ms_cons (ms_par (i := 4) (j := 5) rfl sc__law_drawn.nd rfl rfl (by decide) rfl rfl (ma_cons (me_call (D__law_pick base) (by first | exact erOk_def | exact erOk0 | assumption) (hr.mono (by decide)) rfl T.g__law_pick T.kp__law_pick (ma_cons (me_var 0) (ma_cons (me_lst (ma_cons (me_int) (ma_cons (me_int) (ma_cons (me_int) (ma_cons (me_int) (ma_cons (me_int) (ma_cons (me_int) (ma_nil)))))))) (ma_nil))) (ln_cons (ln_cons (ln_nil)))) (ma_cons (me_call (D__law_pick base) (by first | exact erOk_def | exact erOk0 | assumption) (hr.mono (by decide)) rfl T.g__law_pick T.kp__law_pick (ma_cons (me_var 0) (ma_cons (me_lst (ma_cons (me_int) (ma_cons (me_int) (ma_cons (me_int) (ma_cons (me_int) (ma_cons (me_int) (ma_cons (me_int) (ma_cons (me_int) (ma_nil))))))))) (ma_nil))) (ln_cons (ln_cons (ln_nil)))) (ma_nil)))) (ms_cons (ms_set (i := 1) sc__law_drawn.nd rfl (by first | exact Or.inl rfl | exact Or.inr rfl) (me_callTy (cm_tuple) rfl T.z_tuple (by decide +kernel) (ma_cons (me_new (mn_lc [("_law_number", 7)] rfl sc__law_drawn.nd (mi_range1 rfl T.z_range (ma_cons (me_var 4) (ma_nil)) (ln_cons (ln_nil))) (blkOk_by (N := N__law_drawn) (sc := defScope s__law_drawn) (by decide +kernel)) (fun _ _ _ _ _ => mg_name (i := 7) sc__law_drawn.nd rfl (by first | exact Or.inl rfl | exact Or.inr rfl)) (fun _ _ _ _ _ => mts_one (mt_cmp (om_eqX hu) (me_call (D__law_toss base) (by first | exact erOk_def | exact erOk0 | assumption) (hr.mono (by decide)) rfl T.g__law_toss T.kp__law_toss (ma_cons (me_var 0) (ma_cons (me_int) (ma_nil))) (ln_cons (ln_cons (ln_nil)))) (me_int))) (fun _ _ _ _ _ => me_var 7))) (ma_nil)))) (ms_cons (ms_set (i := 2) sc__law_drawn.nd rfl (by first | exact Or.inl rfl | exact Or.inr rfl) (me_call (D__law_toss base) (by first | exact erOk_def | exact erOk0 | assumption) (hr.mono (by decide)) rfl T.g__law_toss T.kp__law_toss (ma_cons (me_var 0) (ma_cons (me_int) (ma_nil))) (ln_cons (ln_cons (ln_nil))))) (ms_cons (ms_setLcE (i := 3) (k := eNew) tNew_fro [("_law_rest", 6)] rfl sc__law_drawn.nd rfl rfl (sw_true rfl rfl rfl (by decide +kernel)) (mi_range1 rfl T.z_range (ma_cons (me_var 5) (ma_nil)) (ln_cons (ln_nil))) (blkOk_by (N := N__law_drawn) (sc := defScope s__law_drawn) (by decide +kernel)) (fun _ _ _ _ _ => mg_name (i := 6) sc__law_drawn.nd rfl (by first | exact Or.inl rfl | exact Or.inr rfl)) (fun _ _ _ _ _ => mts_one (mt_w (mw_or (mt_cmp (om_eqX hu) (me_var 2) (me_int)) (mw_or1 (mt_w (mw_and (mt_cmp om_gt (me_var 2) (me_int)) (mw_and1 (mt_cmp (om_eqX hu) (me_call (D__law_toss base) (by first | exact erOk_def | exact erOk0 | assumption) (hr.mono (by decide)) rfl T.g__law_toss T.kp__law_toss (ma_cons (me_var 0) (ma_cons (me_int) (ma_nil))) (ln_cons (ln_cons (ln_nil)))) (me_int))))))))) (fun _ _ _ _ _ => me_var 6)) (ms_one (ms_ret (me_lst (ma_cons (me_var 1) (ma_cons (me_var 4) (ma_cons (me_var 5) (ma_cons (me_callTy (cm_tuple) rfl T.z_tuple (by decide +kernel) (ma_cons (me_var 3) (ma_nil))) (ma_nil)))))))))))
set_option maxHeartbeats 4000000 in
theorem ok__law_is_by (T : Txt0 K mg) (D_Limits___eq__ : P_Limits___eq__ P w K mg) (D__law_has : P__law_has P w K mg) (D__law_due : P__law_due P w K mg) (D_Limits___contains__ : P_Limits___contains__ P w K mg) : P__law_is_by P w K mg := by
  obtain ⟨fd, F⟩ := T.F__law_is_by
  intro base
  refine fn_okD F (F.bindsN fun _ _ _ _ _ _ us hl => match us, hl with | [_, _, _], _ => by kernel_rfl) sc__law_is_by fun cdv A outer s H E hr => ?_
  have hu := hr.room.units
  exact ms_cons (ms_for (by first | exact passes_of rfl | assumption) rfl (mi_range1 rfl T.z_range (ma_cons (me_int) (ma_nil)) (ln_cons (ln_nil))) (mg_name (i := 3) sc__law_is_by.nd rfl (by first | exact Or.inl rfl | exact Or.inr rfl)) (ms_one (ms_if (mt_cmp (om_dunNe (om_neX hu) T.du_Limits___eq__ T.ne_Limits T.nf_Limits (D_Limits___eq__ base) (hr.mono (by decide))) (me_cmp (om_dunIn (om_in2 hu) T.du_Limits___contains__ (D_Limits___contains__ base) (hr.mono (by decide))) (me_var 3) (me_var 0)) (me_call (D__law_due base) (by first | exact erOk_def | exact erOk0 | assumption) (hr.mono (by decide)) rfl T.g__law_due T.kp__law_due (ma_cons (me_var 2) (ma_cons (me_call (D__law_has base) (by first | exact erOk_def | exact erOk0 | assumption) (hr.mono (by decide)) rfl T.g__law_has T.kp__law_has (ma_cons (me_ix (me_var 1) (me_int)) (ma_cons (me_var 3) (ma_nil))) (ln_cons (ln_cons (ln_nil)))) (ma_cons (me_call (D__law_has base) (by first | exact erOk_def | exact erOk0 | assumption) (hr.mono (by decide)) rfl T.g__law_has T.kp__law_has (ma_cons (me_ix (me_var 1) (me_int)) (ma_cons (me_var 3) (ma_nil))) (ln_cons (ln_cons (ln_nil)))) (ma_nil)))) (ln_cons (ln_cons (ln_cons (ln_nil)))))) (ms_one (ms_ret (me_bl))) (ms_nil)))) (ms_one (ms_ret (me_bl)))
set_option maxHeartbeats 4000000 in
theorem ok_Limits___init__ (T : Txt0 K mg) (D_least_first : P_least_first P w K mg) (D_begins_of : P_begins_of P w K mg) (D_is_below : P_is_below P w K mg) (D_least_period : P_least_period P w K mg) (D_are_below : P_are_below P w K mg) : P_Limits___init__ P w K mg := by
  obtain ⟨t_MAX_PERIOD, q_MAX_PERIOD⟩ := T.c_MAX_PERIOD
  obtain ⟨fd, F⟩ := T.F_Limits___init__
  intro base
  refine fn_okD F (F.bindsN fun _ _ _ _ _ _ us hl => match us, hl with | [_, _, _, _, _], _ => by kernel_rfl) sc_Limits___init__ fun cdv A outer s H E hr => ?_
  have hu := hr.room.units
  exact ms_cons (ms_if (mt_w (mw_or (mt_not (mt_val (me_call (D_is_below base) (by first | exact erOk_def | exact erOk0 | assumption) (hr.mono (by decide)) rfl T.g_is_below T.kp_is_below (ma_cons (me_var 2) (ma_cons (me_op om_add (me_gint rfl q_MAX_PERIOD) (me_int)) (ma_nil))) (ln_cons (ln_cons (ln_nil)))))) (mw_or (mt_not (mt_val (me_call (D_is_below base) (by first | exact erOk_def | exact erOk0 | assumption) (hr.mono (by decide)) rfl T.g_is_below T.kp_is_below (ma_cons (me_var 3) (ma_cons (me_op om_add (me_gint rfl q_MAX_PERIOD) (me_int)) (ma_nil))) (ln_cons (ln_cons (ln_nil)))))) (mw_or1 (mt_cmp (om_eqX hu) (me_var 3) (me_int)))))) (ms_one (ms_rz rfl T.mx_InvalidLimits T.gc_InvalidLimits (by first | exact erOk_def | exact erOk0 | assumption) rfl)) (ms_nil)) (ms_cons (ms_if (mt_w (mw_or (mt_not (mt_val (me_call (D_are_below base) (by first | exact erOk_def | exact erOk0 | assumption) (hr.mono (by decide)) rfl T.g_are_below T.kp_are_below (ma_cons (me_var 1) (ma_cons (me_var 2) (ma_nil))) (ln_cons (ln_cons (ln_nil)))))) (mw_or1 (mt_not (mt_val (me_call (D_are_below base) (by first | exact erOk_def | exact erOk0 | assumption) (hr.mono (by decide)) rfl T.g_are_below T.kp_are_below (ma_cons (me_var 4) (ma_cons (me_var 3) (ma_nil))) (ln_cons (ln_cons (ln_nil))))))))) (ms_one (ms_rz rfl T.mx_InvalidLimits T.gc_InvalidLimits (by first | exact erOk_def | exact erOk0 | assumption) rfl)) (ms_nil)) (ms_cons (ms_fld (me_var 0) (me_call (D_least_period base) (by first | exact erOk_def | exact erOk0 | assumption) (hr.mono (by decide)) rfl T.g_least_period T.kp_least_period (ma_cons (me_var 4) (ma_cons (me_var 3) (ma_nil))) (ln_cons (ln_cons (ln_nil)))) (fld_cons T.fl_Limits_own_period fld_nil)) (ms_cons (ms_fld (me_var 0) (me_callTy (cm_tuple) rfl T.z_tuple (by decide +kernel) (ma_cons (me_new (mn_lc [("rest", 5)] rfl sc_Limits___init__.nd (mi_any (me_var 4)) (blkOk_by (N := N_Limits___init__) (sc := defScope s_Limits___init__) (by decide +kernel)) (fun _ _ _ _ _ => mg_name (i := 5) sc_Limits___init__.nd rfl (by first | exact Or.inl rfl | exact Or.inr rfl)) (fun _ _ _ _ _ => mts_one (mt_cmp om_lt (me_var 5) (me_fld (me_var 0) (fld_cons T.fl_Limits_own_period (fld_nil))))) (fun _ _ _ _ _ => me_var 5))) (ma_nil))) (fld_cons T.fl_Limits_own_rests fld_nil)) (ms_cons (ms_fld (me_var 0) (me_call (D_least_first base) (by first | exact erOk_def | exact erOk0 | assumption) (hr.mono (by decide)) rfl T.g_least_first T.kp_least_first (ma_cons (me_var 1) (ma_cons (me_var 2) (ma_cons (me_fld (me_var 0) (fld_cons T.fl_Limits_own_period (fld_nil))) (ma_cons (me_fld (me_var 0) (fld_cons T.fl_Limits_own_rests (fld_nil))) (ma_nil))))) (ln_cons (ln_cons (ln_cons (ln_cons (ln_nil)))))) (fld_cons T.fl_Limits_own_first fld_nil)) (ms_cons (ms_fld (me_var 0) (me_callTy (cm_tuple) rfl T.z_tuple (by decide +kernel) (ma_cons (me_new (mn_lc [("number", 6)] rfl sc_Limits___init__.nd (mi_any (me_var 1)) (blkOk_by (N := N_Limits___init__) (sc := defScope s_Limits___init__) (by decide +kernel)) (fun _ _ _ _ _ => mg_name (i := 6) sc_Limits___init__.nd rfl (by first | exact Or.inl rfl | exact Or.inr rfl)) (fun _ _ _ _ _ => mts_one (mt_cmp om_lt (me_var 6) (me_fld (me_var 0) (fld_cons T.fl_Limits_own_first (fld_nil))))) (fun _ _ _ _ _ => me_var 6))) (ma_nil))) (fld_cons T.fl_Limits_own_few fld_nil)) (ms_one (ms_fld (me_var 0) (me_call (D_begins_of base) (by first | exact erOk_def | exact erOk0 | assumption) (hr.mono (by decide)) rfl T.g_begins_of T.kp_begins_of (ma_cons (me_fld (me_var 0) (fld_cons T.fl_Limits_own_first (fld_nil))) (ma_cons (me_fld (me_var 0) (fld_cons T.fl_Limits_own_period (fld_nil))) (ma_cons (me_fld (me_var 0) (fld_cons T.fl_Limits_own_rests (fld_nil))) (ma_nil)))) (ln_cons (ln_cons (ln_cons (ln_nil))))) (fld_cons T.fl_Limits_own_begins fld_nil))))))))
set_option maxHeartbeats 4000000 in
theorem ok_Limits_every (T : Txt0 K mg) (D_Limits___init__ : P_Limits___init__ P w K mg) : P_Limits_every P w K mg := by
  obtain ⟨fd, F⟩ := T.F_Limits_every
  intro base
  refine fn_okD F (F.bindsN fun _ _ _ _ _ _ us hl => match us, hl with | [_], _ => by kernel_rfl) sc_Limits_every fun cdv A outer s H E hr => ?_
  have hu := hr.room.units
  exact ms_one (ms_ret (me_makeL (i := 0) T.mk_Limits (D_Limits___init__ base) (by first | exact erOk_def | exact erOk0 | assumption) (hr.mono (by decide)) rfl (by first | exact Or.inl rfl | exact Or.inr (Or.inl rfl)) (ma_cons (me_tup (ma_nil)) (ma_cons (me_int) (ma_cons (me_int) (ma_cons (me_tup (ma_cons (me_int) (ma_nil))) (ma_nil))))) (ln_cons (ln_cons (ln_cons (ln_cons (ln_nil)))))))
set_option maxHeartbeats 4000000 in
theorem ok_Limits_none (T : Txt0 K mg) (D_Limits___init__ : P_Limits___init__ P w K mg) : P_Limits_none P w K mg := by
  obtain ⟨fd, F⟩ := T.F_Limits_none
  intro base
  refine fn_okD F (F.bindsN fun _ _ _ _ _ _ us hl => match us, hl with | [_], _ => by kernel_rfl) sc_Limits_none fun cdv A outer s H E hr => ?_
  have hu := hr.room.units
  exact ms_one (ms_ret (me_makeL (i := 0) T.mk_Limits (D_Limits___init__ base) (by first | exact erOk_def | exact erOk0 | assumption) (hr.mono (by decide)) rfl (by first | exact Or.inl rfl | exact Or.inr (Or.inl rfl)) (ma_cons (me_tup (ma_nil)) (ma_cons (me_int) (ma_cons (me_int) (ma_cons (me_tup (ma_nil)) (ma_nil))))) (ln_cons (ln_cons (ln_cons (ln_cons (ln_nil)))))))
set_option maxHeartbeats 4000000 in
theorem ok_Limits___invert__ (T : Txt0 K mg) (D_Limits___init__ : P_Limits___init__ P w K mg) : P_Limits___invert__ P w K mg := by
  obtain ⟨fd, F⟩ := T.F_Limits___invert__
  intro base
  refine fn_okD F (F.bindsN fun _ _ _ _ _ _ us hl => match us, hl with | [_], _ => by kernel_rfl) sc_Limits___invert__ fun cdv A outer s H E hr => ?_
  have hu := hr.room.units
  exact ms_cons (ms_set (i := 1) sc_Limits___invert__.nd rfl (by first | exact Or.inl rfl | exact Or.inr rfl) (me_callTy (cm_tuple) rfl T.z_tuple (by decide +kernel) (ma_cons (me_new (mn_lc [("number", 3)] rfl sc_Limits___invert__.nd (mi_range1 rfl T.z_range (ma_cons (me_fld (me_var 0) (fld_cons T.fl_Limits_own_first (fld_nil))) (ma_nil)) (ln_cons (ln_nil))) (blkOk_by (N := N_Limits___invert__) (sc := defScope s_Limits___invert__) (by decide +kernel)) (fun _ _ _ _ _ => mg_name (i := 3) sc_Limits___invert__.nd rfl (by first | exact Or.inl rfl | exact Or.inr rfl)) (fun _ _ _ _ _ => mts_one (mt_cmp (om_notin2 hu) (me_var 3) (me_fld (me_var 0) (fld_cons T.fl_Limits_own_few (fld_nil))))) (fun _ _ _ _ _ => me_var 3))) (ma_nil)))) (ms_cons (ms_set (i := 2) sc_Limits___invert__.nd rfl (by first | exact Or.inl rfl | exact Or.inr rfl) (me_callTy (cm_tuple) rfl T.z_tuple (by decide +kernel) (ma_cons (me_new (mn_lc [("rest", 4)] rfl sc_Limits___invert__.nd (mi_range1 rfl T.z_range (ma_cons (me_fld (me_var 0) (fld_cons T.fl_Limits_own_period (fld_nil))) (ma_nil)) (ln_cons (ln_nil))) (blkOk_by (N := N_Limits___invert__) (sc := defScope s_Limits___invert__) (by decide +kernel)) (fun _ _ _ _ _ => mg_name (i := 4) sc_Limits___invert__.nd rfl (by first | exact Or.inl rfl | exact Or.inr rfl)) (fun _ _ _ _ _ => mts_one (mt_cmp (om_notin2 hu) (me_var 4) (me_fld (me_var 0) (fld_cons T.fl_Limits_own_rests (fld_nil))))) (fun _ _ _ _ _ => me_var 4))) (ma_nil)))) (ms_one (ms_ret (me_make T.mk_Limits (D_Limits___init__ base) (by first | exact erOk_def | exact erOk0 | assumption) (hr.mono (by decide)) rfl T.gc_Limits (ma_cons (me_var 1) (ma_cons (me_fld (me_var 0) (fld_cons T.fl_Limits_own_first (fld_nil))) (ma_cons (me_fld (me_var 0) (fld_cons T.fl_Limits_own_period (fld_nil))) (ma_cons (me_var 2) (ma_nil))))) (ln_cons (ln_cons (ln_cons (ln_cons (ln_nil)))))))))
set_option maxHeartbeats 4000000 in
theorem ok_joined (T : Txt0 K mg) (D_greatest_divisor : P_greatest_divisor P w K mg) (D_require_limits : P_require_limits P w K mg) (D_has_number : P_has_number P w K mg) (D_Limits___init__ : P_Limits___init__ P w K mg) : P_joined P w K mg := by
  obtain ⟨t_MAX_PERIOD, q_MAX_PERIOD⟩ := T.c_MAX_PERIOD
  obtain ⟨fd, F⟩ := T.F_joined
  intro base
  refine fn_okD F (F.bindsN fun _ _ _ _ _ _ us hl => match us, hl with | [_, _, _], _ => by kernel_rfl) sc_joined fun cdv A outer s H E hr => ?_
  have hu := hr.room.units
  have hu5 := hr.u65
  exact ms_cons (ms_expr (me_call (D_require_limits base) (by first | exact erOk_def | exact erOk0 | assumption) (hr.mono (by decide)) rfl T.g_require_limits T.kp_require_limits (ma_cons (me_var 1) (ma_nil)) (ln_cons (ln_nil)))) (ms_cons (ms_set (i := 3) sc_joined.nd rfl (by first | exact Or.inl rfl | exact Or.inr rfl) (me_op om_div (me_op om_mul (me_fld (me_var 0) (fld_cons T.fl_Limits_own_period (fld_nil))) (me_fld (me_var 1) (fld_cons T.fl_Limits_own_period (fld_nil)))) (me_call (D_greatest_divisor base) (by first | exact erOk_def | exact erOk0 | assumption) (hr.mono (by decide)) rfl T.g_greatest_divisor T.kp_greatest_divisor (ma_cons (me_fld (me_var 0) (fld_cons T.fl_Limits_own_period (fld_nil))) (ma_cons (me_fld (me_var 1) (fld_cons T.fl_Limits_own_period (fld_nil))) (ma_nil))) (ln_cons (ln_cons (ln_nil)))))) (ms_cons (ms_if (mt_cmp om_gt (me_var 3) (me_gint rfl q_MAX_PERIOD)) (ms_one (ms_never)) (ms_nil)) (ms_cons (ms_set (i := 4) sc_joined.nd rfl (by first | exact Or.inl rfl | exact Or.inr rfl) (me_callB (cm_max rfl) rfl T.z_max (by decide +kernel) (ma_cons (me_fld (me_var 0) (fld_cons T.fl_Limits_own_first (fld_nil))) (ma_cons (me_fld (me_var 1) (fld_cons T.fl_Limits_own_first (fld_nil))) (ma_nil))))) (ms_cons (ms_setLcE (i := 5) (k := eNew) tNew_fro [("at", 7)] rfl sc_joined.nd rfl rfl (sw_true rfl rfl rfl (by decide +kernel)) (mi_range1 rfl T.z_range (ma_cons (me_op om_add (me_var 4) (me_var 3)) (ma_nil)) (ln_cons (ln_nil))) (blkOk_by (N := N_joined) (sc := defScope s_joined) (by decide +kernel)) (fun _ _ _ _ _ => mg_name (i := 7) sc_joined.nd rfl (by first | exact Or.inl rfl | exact Or.inr rfl)) (fun _ _ _ _ _ => mts_one (mt_cmp (om_in3 hu5) (me_tup (ma_cons (me_call (D_has_number base) (by first | exact erOk_def | exact erOk0 | assumption) (hr.mono (by decide)) rfl T.g_has_number T.kp_has_number (ma_cons (me_var 0) (ma_cons (me_var 7) (ma_nil))) (ln_cons (ln_cons (ln_nil)))) (ma_cons (me_call (D_has_number base) (by first | exact erOk_def | exact erOk0 | assumption) (hr.mono (by decide)) rfl T.g_has_number T.kp_has_number (ma_cons (me_var 1) (ma_cons (me_var 7) (ma_nil))) (ln_cons (ln_cons (ln_nil)))) (ma_nil)))) (me_var 2))) (fun _ _ _ _ _ => me_var 7)) (ms_cons (ms_set (i := 6) sc_joined.nd rfl (by first | exact Or.inl rfl | exact Or.inr rfl) (me_new (mn_callB cn_sorted rfl T.z_sorted (by decide +kernel) (ma_cons (me_new (mn_lc [("number", 8)] rfl sc_joined.nd (mi_any (me_var 5)) (blkOk_by (N := N_joined) (sc := defScope s_joined) (by decide +kernel)) (fun _ _ _ _ _ => mg_name (i := 8) sc_joined.nd rfl (by first | exact Or.inl rfl | exact Or.inr rfl)) (fun _ _ _ _ _ => mts_one (mt_cmp om_ge (me_var 8) (me_var 4))) (fun _ _ _ _ _ => me_op om_mod (me_var 8) (me_var 3)))) (ma_nil))))) (ms_one (ms_ret (me_make T.mk_Limits (D_Limits___init__ base) (by first | exact erOk_def | exact erOk0 | assumption) (hr.mono (by decide)) rfl T.gc_Limits (ma_cons (me_callTy (cm_tuple) rfl T.z_tuple (by decide +kernel) (ma_cons (me_new (mn_lc [("number", 8)] rfl sc_joined.nd (mi_any (me_var 5)) (blkOk_by (N := N_joined) (sc := defScope s_joined) (by decide +kernel)) (fun _ _ _ _ _ => mg_name (i := 8) sc_joined.nd rfl (by first | exact Or.inl rfl | exact Or.inr rfl)) (fun _ _ _ _ _ => mts_one (mt_cmp om_lt (me_var 8) (me_var 4))) (fun _ _ _ _ _ => me_var 8))) (ma_nil))) (ma_cons (me_var 4) (ma_cons (me_var 3) (ma_cons (me_callTy (cm_tuple) rfl T.z_tuple (by decide +kernel) (ma_cons (me_var 6) (ma_nil))) (ma_nil))))) (ln_cons (ln_cons (ln_cons (ln_cons (ln_nil)))))))))))))
set_option maxHeartbeats 4000000 in
theorem ok__law_limits (T : Txt0 K mg) (D_Limits___init__ : P_Limits___init__ P w K mg) : P__law_limits P w K mg := by
  obtain ⟨fd, F⟩ := T.F__law_limits
  intro base
  refine fn_okD F (F.bindsN fun _ _ _ _ _ _ us hl => match us, hl with | [_], _ => by kernel_rfl) sc__law_limits fun cdv A outer s H E hr => ?_
  have hu := hr.room.units
  exact ms_one (ms_ret (me_make T.mk_Limits (D_Limits___init__ base) (by first | exact erOk_def | exact erOk0 | assumption) (hr.mono (by decide)) rfl T.gc_Limits (ma_cons (me_ix (me_var 0) (me_int)) (ma_cons (me_ix (me_var 0) (me_int)) (ma_cons (me_ix (me_var 0) (me_int)) (ma_cons (me_ix (me_var 0) (me_int)) (ma_nil))))) (ln_cons (ln_cons (ln_cons (ln_cons (ln_nil)))))))
set_option maxHeartbeats 4000000 in
theorem ok_Limits_is_within (T : Txt0 K mg) (D_Limits___bool__ : P_Limits___bool__ P w K mg) (D_joined : P_joined P w K mg) : P_Limits_is_within P w K mg := by
  obtain ⟨u_ONE_ALONE, v_ONE_ALONE, q_ONE_ALONE, r_ONE_ALONE, s_ONE_ALONE⟩ := T.c_ONE_ALONE
  obtain ⟨fd, F⟩ := T.F_Limits_is_within
  intro base
  refine fn_okD F (F.bindsN fun _ _ _ _ _ _ us hl => match us, hl with | [_, _], _ => by kernel_rfl) sc_Limits_is_within fun cdv A outer s H E hr => ?_
  have hu := hr.room.units
  exact ms_one (ms_ret (me_not (me_callTy (cm_boolX cm_bool0 T.du_Limits___bool__ (D_Limits___bool__ base) (hr.mono (by decide))) rfl T.z_bool (by decide +kernel) (ma_cons (me_call (D_joined base) (by first | exact erOk_def | exact erOk0 | assumption) (hr.mono (by decide)) rfl T.g_joined T.kp_joined (ma_cons (me_var 0) (ma_cons (me_var 1) (ma_cons (me_glob rfl q_ONE_ALONE r_ONE_ALONE s_ONE_ALONE) (ma_nil)))) (ln_cons (ln_cons (ln_cons (ln_nil))))) (ma_nil)))))
set_option maxHeartbeats 4000000 in
theorem ok_Limits___and__ (T : Txt0 K mg) (D_joined : P_joined P w K mg) : P_Limits___and__ P w K mg := by
  obtain ⟨u_BOTH, v_BOTH, q_BOTH, r_BOTH, s_BOTH⟩ := T.c_BOTH
  obtain ⟨fd, F⟩ := T.F_Limits___and__
  intro base
  refine fn_okD F (F.bindsN fun _ _ _ _ _ _ us hl => match us, hl with | [_, _], _ => by kernel_rfl) sc_Limits___and__ fun cdv A outer s H E hr => ?_
  have hu := hr.room.units
  exact ms_one (ms_ret (me_call (D_joined base) (by first | exact erOk_def | exact erOk0 | assumption) (hr.mono (by decide)) rfl T.g_joined T.kp_joined (ma_cons (me_var 0) (ma_cons (me_var 1) (ma_cons (me_glob rfl q_BOTH r_BOTH s_BOTH) (ma_nil)))) (ln_cons (ln_cons (ln_cons (ln_nil))))))
set_option maxHeartbeats 4000000 in
theorem ok_Limits___or__ (T : Txt0 K mg) (D_joined : P_joined P w K mg) : P_Limits___or__ P w K mg := by
  obtain ⟨u_ANY, v_ANY, q_ANY, r_ANY, s_ANY⟩ := T.c_ANY
  obtain ⟨fd, F⟩ := T.F_Limits___or__
  intro base
  refine fn_okD F (F.bindsN fun _ _ _ _ _ _ us hl => match us, hl with | [_, _], _ => by kernel_rfl) sc_Limits___or__ fun cdv A outer s H E hr => ?_
  have hu := hr.room.units
  exact ms_one (ms_ret (me_call (D_joined base) (by first | exact erOk_def | exact erOk0 | assumption) (hr.mono (by decide)) rfl T.g_joined T.kp_joined (ma_cons (me_var 0) (ma_cons (me_var 1) (ma_cons (me_glob rfl q_ANY r_ANY s_ANY) (ma_nil)))) (ln_cons (ln_cons (ln_cons (ln_nil))))))
set_option maxHeartbeats 4000000 in
theorem ok_Limits___sub__ (T : Txt0 K mg) (D_joined : P_joined P w K mg) : P_Limits___sub__ P w K mg := by
  obtain ⟨u_ONE_ALONE, v_ONE_ALONE, q_ONE_ALONE, r_ONE_ALONE, s_ONE_ALONE⟩ := T.c_ONE_ALONE
  obtain ⟨fd, F⟩ := T.F_Limits___sub__
  intro base
  refine fn_okD F (F.bindsN fun _ _ _ _ _ _ us hl => match us, hl with | [_, _], _ => by kernel_rfl) sc_Limits___sub__ fun cdv A outer s H E hr => ?_
  have hu := hr.room.units
  exact ms_one (ms_ret (me_call (D_joined base) (by first | exact erOk_def | exact erOk0 | assumption) (hr.mono (by decide)) rfl T.g_joined T.kp_joined (ma_cons (me_var 0) (ma_cons (me_var 1) (ma_cons (me_glob rfl q_ONE_ALONE r_ONE_ALONE s_ONE_ALONE) (ma_nil)))) (ln_cons (ln_cons (ln_cons (ln_nil))))))
set_option maxHeartbeats 4000000 in
theorem ok_Limits___xor__ (T : Txt0 K mg) (D_joined : P_joined P w K mg) : P_Limits___xor__ P w K mg := by
  obtain ⟨u_JUST_ONE, v_JUST_ONE, q_JUST_ONE, r_JUST_ONE, s_JUST_ONE⟩ := T.c_JUST_ONE
  obtain ⟨fd, F⟩ := T.F_Limits___xor__
  intro base
  refine fn_okD F (F.bindsN fun _ _ _ _ _ _ us hl => match us, hl with | [_, _], _ => by kernel_rfl) sc_Limits___xor__ fun cdv A outer s H E hr => ?_
  have hu := hr.room.units
  exact ms_one (ms_ret (me_call (D_joined base) (by first | exact erOk_def | exact erOk0 | assumption) (hr.mono (by decide)) rfl T.g_joined T.kp_joined (ma_cons (me_var 0) (ma_cons (me_var 1) (ma_cons (me_glob rfl q_JUST_ONE r_JUST_ONE s_JUST_ONE) (ma_nil)))) (ln_cons (ln_cons (ln_cons (ln_nil))))))
set_option maxHeartbeats 4000000 in
theorem ok__law_right (T : Txt0 K mg) (D_Limits___bool__ : P_Limits___bool__ P w K mg) (D_Limits___eq__ : P_Limits___eq__ P w K mg) (D__law_has : P__law_has P w K mg) (D_Limits___contains__ : P_Limits___contains__ P w K mg) (D__law_drawn : P__law_drawn P w K mg) (D__law_is_by : P__law_is_by P w K mg) (D_Limits_every : P_Limits_every P w K mg) (D_Limits_none : P_Limits_none P w K mg) (D_Limits___invert__ : P_Limits___invert__ P w K mg) (D__law_limits : P__law_limits P w K mg) (D_Limits_is_within : P_Limits_is_within P w K mg) (D_Limits___and__ : P_Limits___and__ P w K mg) (D_Limits___or__ : P_Limits___or__ P w K mg) (D_Limits___sub__ : P_Limits___sub__ P w K mg) (D_Limits___xor__ : P_Limits___xor__ P w K mg) : P__law_right P w K mg := by
  obtain ⟨fd, F⟩ := T.F__law_right
  intro base
  refine fn_okD F (F.bindsN fun _ _ _ _ _ _ us hl => match us, hl with | [_], _ => by kernel_rfl) sc__law_right fun cdv A outer s H E hr => ?_
  have hu := hr.room.units
  exact ms_cons (ms_set (i := 1) sc__law_right.nd rfl (by first | exact Or.inl rfl | exact Or.inr rfl) (me_new (mn_lc [("_law_turn", 6)] rfl sc__law_right.nd (mi_range1 rfl T.z_range (ma_cons (me_int) (ma_nil)) (ln_cons (ln_nil))) (blkOk_by (N := N__law_right) (sc := defScope s__law_right) (by decide +kernel)) (fun _ _ _ _ _ => mg_name (i := 6) sc__law_right.nd rfl (by first | exact Or.inl rfl | exact Or.inr rfl)) (fun _ _ _ _ _ => mts_nil) (fun _ _ _ _ _ => me_call (D__law_drawn base) (by first | exact erOk_def | exact erOk0 | assumption) (hr.mono (by decide)) rfl T.g__law_drawn T.kp__law_drawn (ma_cons (me_var 0) (ma_nil)) (ln_cons (ln_nil)))))) (ms_cons (ms_asgL rfl (me_new (mn_lc [("_law_parts", 7)] rfl sc__law_right.nd (mi_any (me_var 1)) (blkOk_by (N := N__law_right) (sc := defScope s__law_right) (by decide +kernel)) (fun _ _ _ _ _ => mg_name (i := 7) sc__law_right.nd rfl (by first | exact Or.inl rfl | exact Or.inr rfl)) (fun _ _ _ _ _ => mts_nil) (fun _ _ _ _ _ => me_call (D__law_limits base) (by first | exact erOk_def | exact erOk0 | assumption) (hr.mono (by decide)) rfl T.g__law_limits T.kp__law_limits (ma_cons (me_var 7) (ma_nil)) (ln_cons (ln_nil))))) (mgs_cons (mg_name (i := 3) sc__law_right.nd rfl (by first | exact Or.inl rfl | exact Or.inr rfl)) (mgs_cons (mg_name (i := 4) sc__law_right.nd rfl (by first | exact Or.inl rfl | exact Or.inr rfl)) (mgs_cons (mg_name (i := 5) sc__law_right.nd rfl (by first | exact Or.inl rfl | exact Or.inr rfl)) (mgs_nil))))) (ms_cons (ms_if (mt_w (mw_or (mt_not (mt_val (me_call (D__law_is_by base) (by first | exact erOk_def | exact erOk0 | assumption) (hr.mono (by decide)) rfl T.g__law_is_by T.kp__law_is_by (ma_cons (me_op (om_dunBin om_0 T.du_Limits___and__ T.fi_Limits (D_Limits___and__ base) (by first | exact erOk_def | exact erOk0 | assumption) (hr.mono (by decide))) (me_var 3) (me_var 4)) (ma_cons (me_var 1) (ma_cons (me_str) (ma_nil)))) (ln_cons (ln_cons (ln_cons (ln_nil))))))) (mw_or1 (mt_not (mt_val (me_call (D__law_is_by base) (by first | exact erOk_def | exact erOk0 | assumption) (hr.mono (by decide)) rfl T.g__law_is_by T.kp__law_is_by (ma_cons (me_op (om_dunBin om_0 T.du_Limits___or__ T.fi_Limits (D_Limits___or__ base) (by first | exact erOk_def | exact erOk0 | assumption) (hr.mono (by decide))) (me_var 3) (me_var 4)) (ma_cons (me_var 1) (ma_cons (me_str) (ma_nil)))) (ln_cons (ln_cons (ln_cons (ln_nil)))))))))) (ms_one (ms_ret (me_bl))) (ms_nil)) (ms_cons (ms_if (mt_w (mw_or (mt_not (mt_val (me_call (D__law_is_by base) (by first | exact erOk_def | exact erOk0 | assumption) (hr.mono (by decide)) rfl T.g__law_is_by T.kp__law_is_by (ma_cons (me_op (om_dunBin om_sub T.du_Limits___sub__ T.fi_Limits (D_Limits___sub__ base) (by first | exact erOk_def | exact erOk0 | assumption) (hr.mono (by decide))) (me_var 3) (me_var 4)) (ma_cons (me_var 1) (ma_cons (me_str) (ma_nil)))) (ln_cons (ln_cons (ln_cons (ln_nil))))))) (mw_or1 (mt_not (mt_val (me_call (D__law_is_by base) (by first | exact erOk_def | exact erOk0 | assumption) (hr.mono (by decide)) rfl T.g__law_is_by T.kp__law_is_by (ma_cons (me_op (om_dunBin om_0 T.du_Limits___xor__ T.fi_Limits (D_Limits___xor__ base) (by first | exact erOk_def | exact erOk0 | assumption) (hr.mono (by decide))) (me_var 3) (me_var 4)) (ma_cons (me_var 1) (ma_cons (me_str) (ma_nil)))) (ln_cons (ln_cons (ln_cons (ln_nil)))))))))) (ms_one (ms_ret (me_bl))) (ms_nil)) (ms_cons (ms_if (mt_w (mw_or (mt_cmp (om_dunNe (om_neX hu) T.du_Limits___eq__ T.ne_Limits T.nf_Limits (D_Limits___eq__ base) (hr.mono (by decide))) (me_new (mn_lc [("_law_at", 8)] rfl sc__law_right.nd (mi_range1 rfl T.z_range (ma_cons (me_int) (ma_nil)) (ln_cons (ln_nil))) (blkOk_by (N := N__law_right) (sc := defScope s__law_right) (by decide +kernel)) (fun _ _ _ _ _ => mg_name (i := 8) sc__law_right.nd rfl (by first | exact Or.inl rfl | exact Or.inr rfl)) (fun _ _ _ _ _ => mts_one (mt_cmp (om_dunEq (om_eqX hu) T.du_Limits___eq__ T.nf_Limits (D_Limits___eq__ base) (hr.mono (by decide))) (me_cmp (om_dunIn (om_in2 hu) T.du_Limits___contains__ (D_Limits___contains__ base) (hr.mono (by decide))) (me_var 8) (me_un (um_inv T.du_Limits___invert__ (D_Limits___invert__ base) (by first | exact erOk_def | exact erOk0 | assumption) (hr.mono (by decide))) (me_var 3))) (me_cmp (om_dunIn (om_in2 hu) T.du_Limits___contains__ (D_Limits___contains__ base) (hr.mono (by decide))) (me_var 8) (me_var 3)))) (fun _ _ _ _ _ => me_var 8))) (me_lst (ma_nil))) (mw_or1 (mt_cmp (om_dunNe (om_neX hu) T.du_Limits___eq__ T.ne_Limits T.nf_Limits (D_Limits___eq__ base) (hr.mono (by decide))) (me_un (um_inv T.du_Limits___invert__ (D_Limits___invert__ base) (by first | exact erOk_def | exact erOk0 | assumption) (hr.mono (by decide))) (me_un (um_inv T.du_Limits___invert__ (D_Limits___invert__ base) (by first | exact erOk_def | exact erOk0 | assumption) (hr.mono (by decide))) (me_var 3))) (me_var 3))))) (ms_one (ms_ret (me_bl))) (ms_nil)) (ms_cons (ms_if (mt_w (mw_or (mt_cmp (om_dunNe (om_neX hu) T.du_Limits___eq__ T.ne_Limits T.nf_Limits (D_Limits___eq__ base) (hr.mono (by decide))) (me_op (om_dunBin om_sub T.du_Limits___sub__ T.fi_Limits (D_Limits___sub__ base) (by first | exact erOk_def | exact erOk0 | assumption) (hr.mono (by decide))) (me_var 3) (me_var 4)) (me_op (om_dunBin om_0 T.du_Limits___and__ T.fi_Limits (D_Limits___and__ base) (by first | exact erOk_def | exact erOk0 | assumption) (hr.mono (by decide))) (me_var 3) (me_un (um_inv T.du_Limits___invert__ (D_Limits___invert__ base) (by first | exact erOk_def | exact erOk0 | assumption) (hr.mono (by decide))) (me_var 4)))) (mw_or (mt_cmp (om_dunNe (om_neX hu) T.du_Limits___eq__ T.ne_Limits T.nf_Limits (D_Limits___eq__ base) (hr.mono (by decide))) (me_op (om_dunBin om_0 T.du_Limits___xor__ T.fi_Limits (D_Limits___xor__ base) (by first | exact erOk_def | exact erOk0 | assumption) (hr.mono (by decide))) (me_var 3) (me_var 4)) (me_op (om_dunBin om_sub T.du_Limits___sub__ T.fi_Limits (D_Limits___sub__ base) (by first | exact erOk_def | exact erOk0 | assumption) (hr.mono (by decide))) (me_op (om_dunBin om_0 T.du_Limits___or__ T.fi_Limits (D_Limits___or__ base) (by first | exact erOk_def | exact erOk0 | assumption) (hr.mono (by decide))) (me_var 3) (me_var 4)) (me_op (om_dunBin om_0 T.du_Limits___and__ T.fi_Limits (D_Limits___and__ base) (by first | exact erOk_def | exact erOk0 | assumption) (hr.mono (by decide))) (me_var 3) (me_var 4)))) (mw_or1 (mt_cmp (om_dunNe (om_neX hu) T.du_Limits___eq__ T.ne_Limits T.nf_Limits (D_Limits___eq__ base) (hr.mono (by decide))) (me_un (um_inv T.du_Limits___invert__ (D_Limits___invert__ base) (by first | exact erOk_def | exact erOk0 | assumption) (hr.mono (by decide))) (me_op (om_dunBin om_0 T.du_Limits___or__ T.fi_Limits (D_Limits___or__ base) (by first | exact erOk_def | exact erOk0 | assumption) (hr.mono (by decide))) (me_var 3) (me_var 4))) (me_op (om_dunBin om_0 T.du_Limits___and__ T.fi_Limits (D_Limits___and__ base) (by first | exact erOk_def | exact erOk0 | assumption) (hr.mono (by decide))) (me_un (um_inv T.du_Limits___invert__ (D_Limits___invert__ base) (by first | exact erOk_def | exact erOk0 | assumption) (hr.mono (by decide))) (me_var 3)) (me_un (um_inv T.du_Limits___invert__ (D_Limits___invert__ base) (by first | exact erOk_def | exact erOk0 | assumption) (hr.mono (by decide))) (me_var 4)))))))) (ms_one (ms_ret (me_bl))) (ms_nil)) (ms_cons (ms_if (mt_w (mw_or (mt_cmp (om_dunNe (om_neX hu) T.du_Limits___eq__ T.ne_Limits T.nf_Limits (D_Limits___eq__ base) (hr.mono (by decide))) (me_op (om_dunBin om_0 T.du_Limits___and__ T.fi_Limits (D_Limits___and__ base) (by first | exact erOk_def | exact erOk0 | assumption) (hr.mono (by decide))) (me_var 3) (me_op (om_dunBin om_0 T.du_Limits___or__ T.fi_Limits (D_Limits___or__ base) (by first | exact erOk_def | exact erOk0 | assumption) (hr.mono (by decide))) (me_var 4) (me_var 5))) (me_op (om_dunBin om_0 T.du_Limits___or__ T.fi_Limits (D_Limits___or__ base) (by first | exact erOk_def | exact erOk0 | assumption) (hr.mono (by decide))) (me_op (om_dunBin om_0 T.du_Limits___and__ T.fi_Limits (D_Limits___and__ base) (by first | exact erOk_def | exact erOk0 | assumption) (hr.mono (by decide))) (me_var 3) (me_var 4)) (me_op (om_dunBin om_0 T.du_Limits___and__ T.fi_Limits (D_Limits___and__ base) (by first | exact erOk_def | exact erOk0 | assumption) (hr.mono (by decide))) (me_var 3) (me_var 5)))) (mw_or1 (mt_cmp (om_dunNe (om_neX hu) T.du_Limits___eq__ T.ne_Limits T.nf_Limits (D_Limits___eq__ base) (hr.mono (by decide))) (me_op (om_dunBin om_0 T.du_Limits___xor__ T.fi_Limits (D_Limits___xor__ base) (by first | exact erOk_def | exact erOk0 | assumption) (hr.mono (by decide))) (me_op (om_dunBin om_0 T.du_Limits___xor__ T.fi_Limits (D_Limits___xor__ base) (by first | exact erOk_def | exact erOk0 | assumption) (hr.mono (by decide))) (me_var 3) (me_var 4)) (me_var 5)) (me_op (om_dunBin om_0 T.du_Limits___xor__ T.fi_Limits (D_Limits___xor__ base) (by first | exact erOk_def | exact erOk0 | assumption) (hr.mono (by decide))) (me_var 3) (me_op (om_dunBin om_0 T.du_Limits___xor__ T.fi_Limits (D_Limits___xor__ base) (by first | exact erOk_def | exact erOk0 | assumption) (hr.mono (by decide))) (me_var 4) (me_var 5))))))) (ms_one (ms_ret (me_bl))) (ms_nil)) (ms_cons (ms_setLcE (i := 2) (k := eNew) tNew_fro [("_law_at", 8)] rfl sc__law_right.nd rfl rfl (sw_true rfl rfl rfl (by decide +kernel)) (mi_range1 rfl T.z_range (ma_cons (me_int) (ma_nil)) (ln_cons (ln_nil))) (blkOk_by (N := N__law_right) (sc := defScope s__law_right) (by decide +kernel)) (fun _ _ _ _ _ => mg_name (i := 8) sc__law_right.nd rfl (by first | exact Or.inl rfl | exact Or.inr rfl)) (fun _ _ _ _ _ => mts_one (mt_w (mw_and (mt_val (me_call (D__law_has base) (by first | exact erOk_def | exact erOk0 | assumption) (hr.mono (by decide)) rfl T.g__law_has T.kp__law_has (ma_cons (me_ix (me_var 1) (me_int)) (ma_cons (me_var 8) (ma_nil))) (ln_cons (ln_cons (ln_nil))))) (mw_and1 (mt_not (mt_val (me_call (D__law_has base) (by first | exact erOk_def | exact erOk0 | assumption) (hr.mono (by decide)) rfl T.g__law_has T.kp__law_has (ma_cons (me_ix (me_var 1) (me_int)) (ma_cons (me_var 8) (ma_nil))) (ln_cons (ln_cons (ln_nil)))))))))) (fun _ _ _ _ _ => me_var 8)) (ms_cons (ms_if (mt_w (mw_or (mt_cmp (om_dunNe (om_neX hu) T.du_Limits___eq__ T.ne_Limits T.nf_Limits (D_Limits___eq__ base) (hr.mono (by decide))) (me_meth (me_var 3) T.cl_Limits T.me_Limits_is_within (D_Limits_is_within base) (by first | exact erOk_def | exact erOk0 | assumption) (hr.mono (by decide)) (ma_cons (me_var 4) (ma_nil)) (ln_cons (ln_nil))) (me_cmp (om_dunEq (om_eqX hu) T.du_Limits___eq__ T.nf_Limits (D_Limits___eq__ base) (hr.mono (by decide))) (me_var 2) (me_lst (ma_nil)))) (mw_or (mt_cmp (om_dunNe (om_neX hu) T.du_Limits___eq__ T.ne_Limits T.nf_Limits (D_Limits___eq__ base) (hr.mono (by decide))) (me_meth (me_var 3) T.cl_Limits T.me_Limits_is_within (D_Limits_is_within base) (by first | exact erOk_def | exact erOk0 | assumption) (hr.mono (by decide)) (ma_cons (me_var 4) (ma_nil)) (ln_cons (ln_nil))) (me_cmp (om_dunEq (om_eqX hu) T.du_Limits___eq__ T.nf_Limits (D_Limits___eq__ base) (hr.mono (by decide))) (me_op (om_dunBin om_0 T.du_Limits___or__ T.fi_Limits (D_Limits___or__ base) (by first | exact erOk_def | exact erOk0 | assumption) (hr.mono (by decide))) (me_var 3) (me_var 4)) (me_var 4))) (mw_or1 (mt_not (mt_val (me_meth (me_op (om_dunBin om_0 T.du_Limits___and__ T.fi_Limits (D_Limits___and__ base) (by first | exact erOk_def | exact erOk0 | assumption) (hr.mono (by decide))) (me_var 3) (me_var 4)) T.cl_Limits T.me_Limits_is_within (D_Limits_is_within base) (by first | exact erOk_def | exact erOk0 | assumption) (hr.mono (by decide)) (ma_cons (me_var 3) (ma_nil)) (ln_cons (ln_nil))))))))) (ms_one (ms_ret (me_bl))) (ms_nil)) (ms_one (ms_ret (me_and (me_meth (me_var 3) T.cl_Limits T.me_Limits_is_within (D_Limits_is_within base) (by first | exact erOk_def | exact erOk0 | assumption) (hr.mono (by decide)) (ma_cons (me_cmeth0 (me_glob (v := .ref _) rfl T.gc_Limits rfl (fun _ => .cls _)) T.cr_Limits T.cm_Limits_every (D_Limits_every base) (by first | exact erOk_def | exact erOk0 | assumption) (hr.mono (by decide))) (ma_nil)) (ln_cons (ln_nil))) (me_and (me_meth (me_cmeth0 (me_glob (v := .ref _) rfl T.gc_Limits rfl (fun _ => .cls _)) T.cr_Limits T.cm_Limits_none (D_Limits_none base) (by first | exact erOk_def | exact erOk0 | assumption) (hr.mono (by decide))) T.cl_Limits T.me_Limits_is_within (D_Limits_is_within base) (by first | exact erOk_def | exact erOk0 | assumption) (hr.mono (by decide)) (ma_cons (me_var 3) (ma_nil)) (ln_cons (ln_nil))) (me_one (me_cmp (om_dunEq (om_eqX hu) T.du_Limits___eq__ T.nf_Limits (D_Limits___eq__ base) (hr.mono (by decide))) (me_callTy (cm_boolX cm_bool0 T.du_Limits___bool__ (D_Limits___bool__ base) (hr.mono (by decide))) rfl T.z_bool (by decide +kernel) (ma_cons (me_op (om_dunBin om_sub T.du_Limits___sub__ T.fi_Limits (D_Limits___sub__ base) (by first | exact erOk_def | exact erOk0 | assumption) (hr.mono (by decide))) (me_var 3) (me_var 4)) (ma_nil))) (me_not (me_meth (me_var 3) T.cl_Limits T.me_Limits_is_within (D_Limits_is_within base) (by first | exact erOk_def | exact erOk0 | assumption) (hr.mono (by decide)) (ma_cons (me_var 4) (ma_nil)) (ln_cons (ln_nil))))))))))))))))))
set_option maxHeartbeats 4000000 in
theorem ok_law (T : Txt0 K mg) (D_Limits___eq__ : P_Limits___eq__ P w K mg) (D__law_urn : P__law_urn P w K mg) (D_Limits___init__ : P_Limits___init__ P w K mg) (D_Limits___invert__ : P_Limits___invert__ P w K mg) (D_Limits_is_within : P_Limits_is_within P w K mg) (D_Limits___and__ : P_Limits___and__ P w K mg) (D_Limits___or__ : P_Limits___or__ P w K mg) (D_Limits___sub__ : P_Limits___sub__ P w K mg) (D_Limits___xor__ : P_Limits___xor__ P w K mg) (D__law_right : P__law_right P w K mg) : P_law P w K mg := by
  obtain ⟨fd, F⟩ := T.F_law
  intro base
  refine fn_okD F (F.bindsN fun _ _ _ _ _ _ us hl => match us, hl with | [_], _ => by kernel_rfl) sc_law fun cdv A outer s H E hr => ?_
  have hu := hr.room.units
  exact ms_cons (ms_for (by first | exact passes_of rfl | assumption) rfl (mi_range1 rfl T.z_range (ma_cons (me_callB (cm_max rfl) rfl T.z_max (by decide +kernel) (ma_cons (me_int) (ma_cons (me_callB (cm_minL rfl) rfl T.z_min (by decide +kernel) (ma_cons (me_int) (ma_cons (me_callB (cm_len) rfl T.z_len (by decide +kernel) (ma_cons (me_var 0) (ma_nil))) (ma_nil)))) (ma_nil)))) (ma_nil)) (ln_cons (ln_nil))) (mg_name (i := 1) sc_law.nd rfl (by first | exact Or.inl rfl | exact Or.inr rfl)) (ms_one (ms_if (mt_not (mt_val (me_call (D__law_right base) (by first | exact erOk_def | exact erOk0 | assumption) (hr.mono (by decide)) rfl T.g__law_right T.kp__law_right (ma_cons (me_call (D__law_urn base) (by first | exact erOk_def | exact erOk0 | assumption) (hr.mono (by decide)) rfl T.g__law_urn T.kp__law_urn (ma_cons (me_var 0) (ma_cons (me_var 1) (ma_nil))) (ln_cons (ln_cons (ln_nil)))) (ma_nil)) (ln_cons (ln_nil))))) (ms_one (ms_ret (me_bl))) (ms_nil)))) (ms_cons (ms_par (i := 4) (j := 5) rfl sc_law.nd rfl rfl (by decide) rfl rfl (ma_cons (me_make T.mk_Limits (D_Limits___init__ base) (by first | exact erOk_def | exact erOk0 | assumption) (hr.mono (by decide)) rfl T.gc_Limits (ma_cons (me_tup (ma_nil)) (ma_cons (me_int) (ma_cons (me_int) (ma_cons (me_tup (ma_cons (me_int) (ma_nil))) (ma_nil))))) (ln_cons (ln_cons (ln_cons (ln_cons (ln_nil)))))) (ma_cons (me_make T.mk_Limits (D_Limits___init__ base) (by first | exact erOk_def | exact erOk0 | assumption) (hr.mono (by decide)) rfl T.gc_Limits (ma_cons (me_tup (ma_cons (me_int) (ma_nil))) (ma_cons (me_int) (ma_cons (me_int) (ma_cons (me_tup (ma_cons (me_int) (ma_nil))) (ma_nil))))) (ln_cons (ln_cons (ln_cons (ln_cons (ln_nil)))))) (ma_nil)))) (ms_cons (ms_set (i := 2) sc_law.nd rfl (by first | exact Or.inl rfl | exact Or.inr rfl) (me_lst (ma_cons (me_op (om_dunBin om_0 T.du_Limits___and__ T.fi_Limits (D_Limits___and__ base) (by first | exact erOk_def | exact erOk0 | assumption) (hr.mono (by decide))) (me_var 4) (me_var 5)) (ma_cons (me_op (om_dunBin om_0 T.du_Limits___or__ T.fi_Limits (D_Limits___or__ base) (by first | exact erOk_def | exact erOk0 | assumption) (hr.mono (by decide))) (me_var 4) (me_var 5)) (ma_cons (me_op (om_dunBin om_sub T.du_Limits___sub__ T.fi_Limits (D_Limits___sub__ base) (by first | exact erOk_def | exact erOk0 | assumption) (hr.mono (by decide))) (me_var 4) (me_var 5)) (ma_cons (me_op (om_dunBin om_0 T.du_Limits___xor__ T.fi_Limits (D_Limits___xor__ base) (by first | exact erOk_def | exact erOk0 | assumption) (hr.mono (by decide))) (me_var 4) (me_var 5)) (ma_cons (me_un (um_inv T.du_Limits___invert__ (D_Limits___invert__ base) (by first | exact erOk_def | exact erOk0 | assumption) (hr.mono (by decide))) (me_var 5)) (ma_nil)))))))) (ms_cons (ms_set (i := 3) sc_law.nd rfl (by first | exact Or.inl rfl | exact Or.inr rfl) (me_lst (ma_cons (me_make T.mk_Limits (D_Limits___init__ base) (by first | exact erOk_def | exact erOk0 | assumption) (hr.mono (by decide)) rfl T.gc_Limits (ma_cons (me_tup (ma_nil)) (ma_cons (me_int) (ma_cons (me_int) (ma_cons (me_tup (ma_cons (me_int) (ma_nil))) (ma_nil))))) (ln_cons (ln_cons (ln_cons (ln_cons (ln_nil)))))) (ma_cons (me_make T.mk_Limits (D_Limits___init__ base) (by first | exact erOk_def | exact erOk0 | assumption) (hr.mono (by decide)) rfl T.gc_Limits (ma_cons (me_tup (ma_cons (me_int) (ma_cons (me_int) (ma_cons (me_int) (ma_nil))))) (ma_cons (me_int) (ma_cons (me_int) (ma_cons (me_tup (ma_cons (me_int) (ma_cons (me_int) (ma_cons (me_int) (ma_cons (me_int) (ma_nil)))))) (ma_nil))))) (ln_cons (ln_cons (ln_cons (ln_cons (ln_nil)))))) (ma_cons (me_make T.mk_Limits (D_Limits___init__ base) (by first | exact erOk_def | exact erOk0 | assumption) (hr.mono (by decide)) rfl T.gc_Limits (ma_cons (me_tup (ma_cons (me_int) (ma_cons (me_int) (ma_nil)))) (ma_cons (me_int) (ma_cons (me_int) (ma_cons (me_tup (ma_cons (me_int) (ma_cons (me_int) (ma_nil)))) (ma_nil))))) (ln_cons (ln_cons (ln_cons (ln_cons (ln_nil)))))) (ma_nil)))))) (ms_cons (ms_set (i := 3) sc_law.nd rfl (by first | exact Or.inl rfl | exact Or.inr rfl) (me_op om_add (me_var 3) (me_lst (ma_cons (me_make T.mk_Limits (D_Limits___init__ base) (by first | exact erOk_def | exact erOk0 | assumption) (hr.mono (by decide)) rfl T.gc_Limits (ma_cons (me_tup (ma_cons (me_int) (ma_cons (me_int) (ma_cons (me_int) (ma_nil))))) (ma_cons (me_int) (ma_cons (me_int) (ma_cons (me_tup (ma_cons (me_int) (ma_cons (me_int) (ma_cons (me_int) (ma_nil))))) (ma_nil))))) (ln_cons (ln_cons (ln_cons (ln_cons (ln_nil)))))) (ma_cons (me_make T.mk_Limits (D_Limits___init__ base) (by first | exact erOk_def | exact erOk0 | assumption) (hr.mono (by decide)) rfl T.gc_Limits (ma_cons (me_tup (ma_cons (me_int) (ma_cons (me_int) (ma_cons (me_int) (ma_cons (me_int) (ma_nil)))))) (ma_cons (me_int) (ma_cons (me_int) (ma_cons (me_tup (ma_cons (me_int) (ma_cons (me_int) (ma_nil)))) (ma_nil))))) (ln_cons (ln_cons (ln_cons (ln_cons (ln_nil)))))) (ma_nil)))))) (ms_one (ms_ret (me_and (me_cmp (om_dunEq (om_eqLs (om_eqX hu) T.du_Limits___eq__ (T.nf_Limits (.ow "Limits") (by decide)) (D_Limits___eq__ base) (hr.mono (by decide))) T.du_Limits___eq__ T.nf_Limits (D_Limits___eq__ base) (hr.mono (by decide))) (me_var 2) (me_var 3)) (me_and (me_not (me_meth (me_var 4) T.cl_Limits T.me_Limits_is_within (D_Limits_is_within base) (by first | exact erOk_def | exact erOk0 | assumption) (hr.mono (by decide)) (ma_cons (me_var 5) (ma_nil)) (ln_cons (ln_nil)))) (me_one (me_meth (me_op (om_dunBin om_0 T.du_Limits___and__ T.fi_Limits (D_Limits___and__ base) (by first | exact erOk_def | exact erOk0 | assumption) (hr.mono (by decide))) (me_var 4) (me_var 5)) T.cl_Limits T.me_Limits_is_within (D_Limits_is_within base) (by first | exact erOk_def | exact erOk0 | assumption) (hr.mono (by decide)) (ma_cons (me_var 5) (ma_nil)) (ln_cons (ln_nil))))))))))))
end

end K03

namespace K03
open PySem PySem.Spec PyProof.Rows L2 Dz


/-! ### is_integer and its kin -/
theorem isi_i (i : Int) (T : String) (k : Bool) (h : kitB "int" T = some k) : bIsiX csL tabL [.d (.int i), .d (.ty T)] = pur (.d (.bl k)) := isi_eq rfl rfl rfl h
def isInt : D → Bool
  | .int i => decide (-c_TOP < i) && decide (i < c_TOP)
  | _ => false
theorem is_integer_i (i : Int) : f_is_integer [.d (.int i)] = pur (.d (.bl (isInt (.int i)))) := fn_by fun S Q q => by
  unfold b_is_integer
  (try (simp only [Dz.wp_noE, Dz.noE_pur, Dz.w_var, Dz.w_c, Dz.w_op, Dz.w_ix, Dz.w_un, Dz.w_test, Dz.w_asB, Dz.w_not, Dz.w_and, Dz.w_or, Dz.w_if, Dz.w_sif, Dz.w_seq, Dz.after_nx, Dz.after_rt, Dz.w_next, Dz.w_ret, Dz.w_set, Dz.w_drop, Dz.w_put, Dz.w_nil, Dz.w_cons, Dz.w_cb, Dz.w_call, Dz.w_tup, Dz.w_lst, Dz.w_cell, Dz.w_for, Dz.w_of, Dz.w_rg, Dz.w_new, Dz.w_newC, Dz.w_lc, Dz.w_join, Dz.w_isS, Dz.w_chain, Dz.w_eand, Dz.w_eor, Dz.w_enot, Dz.w_ltS, Dz.w_leS, Dz.w_is, Dz.w_isnot, Dz.w_inS, Dz.w_rpr, Dz.w_itS, Dz.w_itL, Dz.w_itLs, Dz.w_itT, Dz.w_add, Dz.w_sub, Dz.w_neg, Dz.w_lt, Dz.w_le, Dz.w_gt, Dz.w_ge, Dz.w_int, Dz.w_intb, Dz.w_abs, Dz.w_max, Dz.w_min, Dz.w_lenL, Dz.w_lenT, Dz.w_lenR, Dz.wp_pur, Dz.startE, Dz.w_dtup, Dz.w_dlst, Dz.asDs_nil, Dz.asDs_cons, Dz.w_some, Dz.w_kTup, Dz.w_kLst, Dz.w_addL, Dz.w_addT, Dz.w_sl, Dz.w_oNone, Dz.w_oSome, Dz.w_asI, Dz.w_slL, Dz.w_slT, Dz.w_zp, Dz.w_itZL, Dz.w_itZT, Dz.w_rg3, Dz.w_par, Dz.w_asg, Dz.w_asD, Dz.w_fld, Dz.w_sfd, Dz.w_mk, Dz.w_pro, Dz.w_isI, Dz.w_met, Dz.w_ncb, Dz.w_tupL, Dz.w_tupT, Dz.w_listL, Dz.w_listT, Dz.w_sorted, Dz.w_minI, Dz.w_itA, Dz.w_itAt, Dz.w_itAs, Dz.w_itAz, Dz.w_inT, Dz.w_inL, Dz.w_niT, Dz.w_inD, Dz.w_eqS, Dz.w_neS, Dz.w_eqI, Dz.w_neI, Dz.w_eqB, Dz.w_neB, Dz.w_eqL, Dz.w_neL, Dz.w_eqT, Dz.w_neT, Dz.dunNe_str, Dz.dunNe_bl, Dz.dunNe_int, Dz.dunNe_lst, Dz.dunNe_tup, Dz.dunNe_non, Dz.dunEq_str, Dz.dunEq_bl, Dz.dunEq_int, Dz.dunEq_lst, Dz.dunEq_tup, Dz.dunEq_non, Dz.dunIn_ins, Dz.tBoolX_ins, Dz.w_notB, Dz.w_isB, Dz.wp_bnd, List.map_cons, List.map_nil, List.length_cons, List.length_nil, List.replicate, List.cons_append, List.nil_append, List.append_nil, List.getElem?_cons_zero, List.getElem?_cons_succ, List.set_cons_zero, List.set_cons_succ, Nat.reduceAdd, Nat.reduceSub, Nat.zero_add, Nat.sub_zero, Bool.not_true, Bool.not_false, if_true, if_false, Bool.false_eq_true, reduceIte, decide_eq_true_eq, Option.map_some, Nat.reduceLeDiff]))
  rw [isi_i i "int" true kit_ii]
  (try (simp only [Dz.wp_noE, Dz.noE_pur, Dz.w_var, Dz.w_c, Dz.w_op, Dz.w_ix, Dz.w_un, Dz.w_test, Dz.w_asB, Dz.w_not, Dz.w_and, Dz.w_or, Dz.w_if, Dz.w_sif, Dz.w_seq, Dz.after_nx, Dz.after_rt, Dz.w_next, Dz.w_ret, Dz.w_set, Dz.w_drop, Dz.w_put, Dz.w_nil, Dz.w_cons, Dz.w_cb, Dz.w_call, Dz.w_tup, Dz.w_lst, Dz.w_cell, Dz.w_for, Dz.w_of, Dz.w_rg, Dz.w_new, Dz.w_newC, Dz.w_lc, Dz.w_join, Dz.w_isS, Dz.w_chain, Dz.w_eand, Dz.w_eor, Dz.w_enot, Dz.w_ltS, Dz.w_leS, Dz.w_is, Dz.w_isnot, Dz.w_inS, Dz.w_rpr, Dz.w_itS, Dz.w_itL, Dz.w_itLs, Dz.w_itT, Dz.w_add, Dz.w_sub, Dz.w_neg, Dz.w_lt, Dz.w_le, Dz.w_gt, Dz.w_ge, Dz.w_int, Dz.w_intb, Dz.w_abs, Dz.w_max, Dz.w_min, Dz.w_lenL, Dz.w_lenT, Dz.w_lenR, Dz.wp_pur, Dz.startE, Dz.w_dtup, Dz.w_dlst, Dz.asDs_nil, Dz.asDs_cons, Dz.w_some, Dz.w_kTup, Dz.w_kLst, Dz.w_addL, Dz.w_addT, Dz.w_sl, Dz.w_oNone, Dz.w_oSome, Dz.w_asI, Dz.w_slL, Dz.w_slT, Dz.w_zp, Dz.w_itZL, Dz.w_itZT, Dz.w_rg3, Dz.w_par, Dz.w_asg, Dz.w_asD, Dz.w_fld, Dz.w_sfd, Dz.w_mk, Dz.w_pro, Dz.w_isI, Dz.w_met, Dz.w_ncb, Dz.w_tupL, Dz.w_tupT, Dz.w_listL, Dz.w_listT, Dz.w_sorted, Dz.w_minI, Dz.w_itA, Dz.w_itAt, Dz.w_itAs, Dz.w_itAz, Dz.w_inT, Dz.w_inL, Dz.w_niT, Dz.w_inD, Dz.w_eqS, Dz.w_neS, Dz.w_eqI, Dz.w_neI, Dz.w_eqB, Dz.w_neB, Dz.w_eqL, Dz.w_neL, Dz.w_eqT, Dz.w_neT, Dz.dunNe_str, Dz.dunNe_bl, Dz.dunNe_int, Dz.dunNe_lst, Dz.dunNe_tup, Dz.dunNe_non, Dz.dunEq_str, Dz.dunEq_bl, Dz.dunEq_int, Dz.dunEq_lst, Dz.dunEq_tup, Dz.dunEq_non, Dz.dunIn_ins, Dz.tBoolX_ins, Dz.w_notB, Dz.w_isB, Dz.wp_bnd, List.map_cons, List.map_nil, List.length_cons, List.length_nil, List.replicate, List.cons_append, List.nil_append, List.append_nil, List.getElem?_cons_zero, List.getElem?_cons_succ, List.set_cons_zero, List.set_cons_succ, Nat.reduceAdd, Nat.reduceSub, Nat.zero_add, Nat.sub_zero, Bool.not_true, Bool.not_false, if_true, if_false, Bool.false_eq_true, reduceIte, decide_eq_true_eq, Option.map_some, Nat.reduceLeDiff]))
  rw [isi_i i "bool" false kit_ib]
  (try (simp only [Dz.wp_noE, Dz.noE_pur, Dz.w_var, Dz.w_c, Dz.w_op, Dz.w_ix, Dz.w_un, Dz.w_test, Dz.w_asB, Dz.w_not, Dz.w_and, Dz.w_or, Dz.w_if, Dz.w_sif, Dz.w_seq, Dz.after_nx, Dz.after_rt, Dz.w_next, Dz.w_ret, Dz.w_set, Dz.w_drop, Dz.w_put, Dz.w_nil, Dz.w_cons, Dz.w_cb, Dz.w_call, Dz.w_tup, Dz.w_lst, Dz.w_cell, Dz.w_for, Dz.w_of, Dz.w_rg, Dz.w_new, Dz.w_newC, Dz.w_lc, Dz.w_join, Dz.w_isS, Dz.w_chain, Dz.w_eand, Dz.w_eor, Dz.w_enot, Dz.w_ltS, Dz.w_leS, Dz.w_is, Dz.w_isnot, Dz.w_inS, Dz.w_rpr, Dz.w_itS, Dz.w_itL, Dz.w_itLs, Dz.w_itT, Dz.w_add, Dz.w_sub, Dz.w_neg, Dz.w_lt, Dz.w_le, Dz.w_gt, Dz.w_ge, Dz.w_int, Dz.w_intb, Dz.w_abs, Dz.w_max, Dz.w_min, Dz.w_lenL, Dz.w_lenT, Dz.w_lenR, Dz.wp_pur, Dz.startE, Dz.w_dtup, Dz.w_dlst, Dz.asDs_nil, Dz.asDs_cons, Dz.w_some, Dz.w_kTup, Dz.w_kLst, Dz.w_addL, Dz.w_addT, Dz.w_sl, Dz.w_oNone, Dz.w_oSome, Dz.w_asI, Dz.w_slL, Dz.w_slT, Dz.w_zp, Dz.w_itZL, Dz.w_itZT, Dz.w_rg3, Dz.w_par, Dz.w_asg, Dz.w_asD, Dz.w_fld, Dz.w_sfd, Dz.w_mk, Dz.w_pro, Dz.w_isI, Dz.w_met, Dz.w_ncb, Dz.w_tupL, Dz.w_tupT, Dz.w_listL, Dz.w_listT, Dz.w_sorted, Dz.w_minI, Dz.w_itA, Dz.w_itAt, Dz.w_itAs, Dz.w_itAz, Dz.w_inT, Dz.w_inL, Dz.w_niT, Dz.w_inD, Dz.w_eqS, Dz.w_neS, Dz.w_eqI, Dz.w_neI, Dz.w_eqB, Dz.w_neB, Dz.w_eqL, Dz.w_neL, Dz.w_eqT, Dz.w_neT, Dz.dunNe_str, Dz.dunNe_bl, Dz.dunNe_int, Dz.dunNe_lst, Dz.dunNe_tup, Dz.dunNe_non, Dz.dunEq_str, Dz.dunEq_bl, Dz.dunEq_int, Dz.dunEq_lst, Dz.dunEq_tup, Dz.dunEq_non, Dz.dunIn_ins, Dz.tBoolX_ins, Dz.w_notB, Dz.w_isB, Dz.wp_bnd, List.map_cons, List.map_nil, List.length_cons, List.length_nil, List.replicate, List.cons_append, List.nil_append, List.append_nil, List.getElem?_cons_zero, List.getElem?_cons_succ, List.set_cons_zero, List.set_cons_succ, Nat.reduceAdd, Nat.reduceSub, Nat.zero_add, Nat.sub_zero, Bool.not_true, Bool.not_false, if_true, if_false, Bool.false_eq_true, reduceIte, decide_eq_true_eq, Option.map_some, Nat.reduceLeDiff]))
  have e : isInt (.int i) = (decide (-c_TOP < i) && decide (i < c_TOP)) := rfl
  rw [e] at q
  by_cases h1 : -c_TOP < i
  · rw [decide_eq_true h1, Bool.true_and] at q
    rw [if_pos h1]
    exact q
  · rw [decide_eq_false h1, Bool.false_and] at q
    rw [if_neg h1]
    exact q
theorem is_integer_o (x : D) (T : String) (h1 : tyD x = some (.bt T)) (h2 : kitB T "int" = some false) (h3 : isInt x = false) : f_is_integer [.d x] = pur (.d (.bl (isInt x))) := fn_by fun S Q q => by
  rw [h3] at q
  unfold b_is_integer
  (try (simp only [Dz.wp_noE, Dz.noE_pur, Dz.w_var, Dz.w_c, Dz.w_op, Dz.w_ix, Dz.w_un, Dz.w_test, Dz.w_asB, Dz.w_not, Dz.w_and, Dz.w_or, Dz.w_if, Dz.w_sif, Dz.w_seq, Dz.after_nx, Dz.after_rt, Dz.w_next, Dz.w_ret, Dz.w_set, Dz.w_drop, Dz.w_put, Dz.w_nil, Dz.w_cons, Dz.w_cb, Dz.w_call, Dz.w_tup, Dz.w_lst, Dz.w_cell, Dz.w_for, Dz.w_of, Dz.w_rg, Dz.w_new, Dz.w_newC, Dz.w_lc, Dz.w_join, Dz.w_isS, Dz.w_chain, Dz.w_eand, Dz.w_eor, Dz.w_enot, Dz.w_ltS, Dz.w_leS, Dz.w_is, Dz.w_isnot, Dz.w_inS, Dz.w_rpr, Dz.w_itS, Dz.w_itL, Dz.w_itLs, Dz.w_itT, Dz.w_add, Dz.w_sub, Dz.w_neg, Dz.w_lt, Dz.w_le, Dz.w_gt, Dz.w_ge, Dz.w_int, Dz.w_intb, Dz.w_abs, Dz.w_max, Dz.w_min, Dz.w_lenL, Dz.w_lenT, Dz.w_lenR, Dz.wp_pur, Dz.startE, Dz.w_dtup, Dz.w_dlst, Dz.asDs_nil, Dz.asDs_cons, Dz.w_some, Dz.w_kTup, Dz.w_kLst, Dz.w_addL, Dz.w_addT, Dz.w_sl, Dz.w_oNone, Dz.w_oSome, Dz.w_asI, Dz.w_slL, Dz.w_slT, Dz.w_zp, Dz.w_itZL, Dz.w_itZT, Dz.w_rg3, Dz.w_par, Dz.w_asg, Dz.w_asD, Dz.w_fld, Dz.w_sfd, Dz.w_mk, Dz.w_pro, Dz.w_isI, Dz.w_met, Dz.w_ncb, Dz.w_tupL, Dz.w_tupT, Dz.w_listL, Dz.w_listT, Dz.w_sorted, Dz.w_minI, Dz.w_itA, Dz.w_itAt, Dz.w_itAs, Dz.w_itAz, Dz.w_inT, Dz.w_inL, Dz.w_niT, Dz.w_inD, Dz.w_eqS, Dz.w_neS, Dz.w_eqI, Dz.w_neI, Dz.w_eqB, Dz.w_neB, Dz.w_eqL, Dz.w_neL, Dz.w_eqT, Dz.w_neT, Dz.dunNe_str, Dz.dunNe_bl, Dz.dunNe_int, Dz.dunNe_lst, Dz.dunNe_tup, Dz.dunNe_non, Dz.dunEq_str, Dz.dunEq_bl, Dz.dunEq_int, Dz.dunEq_lst, Dz.dunEq_tup, Dz.dunEq_non, Dz.dunIn_ins, Dz.tBoolX_ins, Dz.w_notB, Dz.w_isB, Dz.wp_bnd, List.map_cons, List.map_nil, List.length_cons, List.length_nil, List.replicate, List.cons_append, List.nil_append, List.append_nil, List.getElem?_cons_zero, List.getElem?_cons_succ, List.set_cons_zero, List.set_cons_succ, Nat.reduceAdd, Nat.reduceSub, Nat.zero_add, Nat.sub_zero, Bool.not_true, Bool.not_false, if_true, if_false, Bool.false_eq_true, reduceIte, decide_eq_true_eq, Option.map_some, Nat.reduceLeDiff]))
  rw [isi_eq (x := x) (y := .ty "int") h1 rfl rfl (show isQ tabL (.bt T) (.bt "int") = some false from h2)]
  (try (simp only [Dz.wp_noE, Dz.noE_pur, Dz.w_var, Dz.w_c, Dz.w_op, Dz.w_ix, Dz.w_un, Dz.w_test, Dz.w_asB, Dz.w_not, Dz.w_and, Dz.w_or, Dz.w_if, Dz.w_sif, Dz.w_seq, Dz.after_nx, Dz.after_rt, Dz.w_next, Dz.w_ret, Dz.w_set, Dz.w_drop, Dz.w_put, Dz.w_nil, Dz.w_cons, Dz.w_cb, Dz.w_call, Dz.w_tup, Dz.w_lst, Dz.w_cell, Dz.w_for, Dz.w_of, Dz.w_rg, Dz.w_new, Dz.w_newC, Dz.w_lc, Dz.w_join, Dz.w_isS, Dz.w_chain, Dz.w_eand, Dz.w_eor, Dz.w_enot, Dz.w_ltS, Dz.w_leS, Dz.w_is, Dz.w_isnot, Dz.w_inS, Dz.w_rpr, Dz.w_itS, Dz.w_itL, Dz.w_itLs, Dz.w_itT, Dz.w_add, Dz.w_sub, Dz.w_neg, Dz.w_lt, Dz.w_le, Dz.w_gt, Dz.w_ge, Dz.w_int, Dz.w_intb, Dz.w_abs, Dz.w_max, Dz.w_min, Dz.w_lenL, Dz.w_lenT, Dz.w_lenR, Dz.wp_pur, Dz.startE, Dz.w_dtup, Dz.w_dlst, Dz.asDs_nil, Dz.asDs_cons, Dz.w_some, Dz.w_kTup, Dz.w_kLst, Dz.w_addL, Dz.w_addT, Dz.w_sl, Dz.w_oNone, Dz.w_oSome, Dz.w_asI, Dz.w_slL, Dz.w_slT, Dz.w_zp, Dz.w_itZL, Dz.w_itZT, Dz.w_rg3, Dz.w_par, Dz.w_asg, Dz.w_asD, Dz.w_fld, Dz.w_sfd, Dz.w_mk, Dz.w_pro, Dz.w_isI, Dz.w_met, Dz.w_ncb, Dz.w_tupL, Dz.w_tupT, Dz.w_listL, Dz.w_listT, Dz.w_sorted, Dz.w_minI, Dz.w_itA, Dz.w_itAt, Dz.w_itAs, Dz.w_itAz, Dz.w_inT, Dz.w_inL, Dz.w_niT, Dz.w_inD, Dz.w_eqS, Dz.w_neS, Dz.w_eqI, Dz.w_neI, Dz.w_eqB, Dz.w_neB, Dz.w_eqL, Dz.w_neL, Dz.w_eqT, Dz.w_neT, Dz.dunNe_str, Dz.dunNe_bl, Dz.dunNe_int, Dz.dunNe_lst, Dz.dunNe_tup, Dz.dunNe_non, Dz.dunEq_str, Dz.dunEq_bl, Dz.dunEq_int, Dz.dunEq_lst, Dz.dunEq_tup, Dz.dunEq_non, Dz.dunIn_ins, Dz.tBoolX_ins, Dz.w_notB, Dz.w_isB, Dz.wp_bnd, List.map_cons, List.map_nil, List.length_cons, List.length_nil, List.replicate, List.cons_append, List.nil_append, List.append_nil, List.getElem?_cons_zero, List.getElem?_cons_succ, List.set_cons_zero, List.set_cons_succ, Nat.reduceAdd, Nat.reduceSub, Nat.zero_add, Nat.sub_zero, Bool.not_true, Bool.not_false, if_true, if_false, Bool.false_eq_true, reduceIte, decide_eq_true_eq, Option.map_some, Nat.reduceLeDiff]))
  exact q
theorem is_integer_b (b : Bool) : f_is_integer [.d (.bl b)] = pur (.d (.bl false)) := fn_by fun S Q q => by
  unfold b_is_integer
  (try (simp only [Dz.wp_noE, Dz.noE_pur, Dz.w_var, Dz.w_c, Dz.w_op, Dz.w_ix, Dz.w_un, Dz.w_test, Dz.w_asB, Dz.w_not, Dz.w_and, Dz.w_or, Dz.w_if, Dz.w_sif, Dz.w_seq, Dz.after_nx, Dz.after_rt, Dz.w_next, Dz.w_ret, Dz.w_set, Dz.w_drop, Dz.w_put, Dz.w_nil, Dz.w_cons, Dz.w_cb, Dz.w_call, Dz.w_tup, Dz.w_lst, Dz.w_cell, Dz.w_for, Dz.w_of, Dz.w_rg, Dz.w_new, Dz.w_newC, Dz.w_lc, Dz.w_join, Dz.w_isS, Dz.w_chain, Dz.w_eand, Dz.w_eor, Dz.w_enot, Dz.w_ltS, Dz.w_leS, Dz.w_is, Dz.w_isnot, Dz.w_inS, Dz.w_rpr, Dz.w_itS, Dz.w_itL, Dz.w_itLs, Dz.w_itT, Dz.w_add, Dz.w_sub, Dz.w_neg, Dz.w_lt, Dz.w_le, Dz.w_gt, Dz.w_ge, Dz.w_int, Dz.w_intb, Dz.w_abs, Dz.w_max, Dz.w_min, Dz.w_lenL, Dz.w_lenT, Dz.w_lenR, Dz.wp_pur, Dz.startE, Dz.w_dtup, Dz.w_dlst, Dz.asDs_nil, Dz.asDs_cons, Dz.w_some, Dz.w_kTup, Dz.w_kLst, Dz.w_addL, Dz.w_addT, Dz.w_sl, Dz.w_oNone, Dz.w_oSome, Dz.w_asI, Dz.w_slL, Dz.w_slT, Dz.w_zp, Dz.w_itZL, Dz.w_itZT, Dz.w_rg3, Dz.w_par, Dz.w_asg, Dz.w_asD, Dz.w_fld, Dz.w_sfd, Dz.w_mk, Dz.w_pro, Dz.w_isI, Dz.w_met, Dz.w_ncb, Dz.w_tupL, Dz.w_tupT, Dz.w_listL, Dz.w_listT, Dz.w_sorted, Dz.w_minI, Dz.w_itA, Dz.w_itAt, Dz.w_itAs, Dz.w_itAz, Dz.w_inT, Dz.w_inL, Dz.w_niT, Dz.w_inD, Dz.w_eqS, Dz.w_neS, Dz.w_eqI, Dz.w_neI, Dz.w_eqB, Dz.w_neB, Dz.w_eqL, Dz.w_neL, Dz.w_eqT, Dz.w_neT, Dz.dunNe_str, Dz.dunNe_bl, Dz.dunNe_int, Dz.dunNe_lst, Dz.dunNe_tup, Dz.dunNe_non, Dz.dunEq_str, Dz.dunEq_bl, Dz.dunEq_int, Dz.dunEq_lst, Dz.dunEq_tup, Dz.dunEq_non, Dz.dunIn_ins, Dz.tBoolX_ins, Dz.w_notB, Dz.w_isB, Dz.wp_bnd, List.map_cons, List.map_nil, List.length_cons, List.length_nil, List.replicate, List.cons_append, List.nil_append, List.append_nil, List.getElem?_cons_zero, List.getElem?_cons_succ, List.set_cons_zero, List.set_cons_succ, Nat.reduceAdd, Nat.reduceSub, Nat.zero_add, Nat.sub_zero, Bool.not_true, Bool.not_false, if_true, if_false, Bool.false_eq_true, reduceIte, decide_eq_true_eq, Option.map_some, Nat.reduceLeDiff]))
  rw [isi_eq (x := .bl b) (y := .ty "int") rfl rfl rfl (show isQ tabL (.bt "bool") (.bt "int") = some true from kit_bi)]
  (try (simp only [Dz.wp_noE, Dz.noE_pur, Dz.w_var, Dz.w_c, Dz.w_op, Dz.w_ix, Dz.w_un, Dz.w_test, Dz.w_asB, Dz.w_not, Dz.w_and, Dz.w_or, Dz.w_if, Dz.w_sif, Dz.w_seq, Dz.after_nx, Dz.after_rt, Dz.w_next, Dz.w_ret, Dz.w_set, Dz.w_drop, Dz.w_put, Dz.w_nil, Dz.w_cons, Dz.w_cb, Dz.w_call, Dz.w_tup, Dz.w_lst, Dz.w_cell, Dz.w_for, Dz.w_of, Dz.w_rg, Dz.w_new, Dz.w_newC, Dz.w_lc, Dz.w_join, Dz.w_isS, Dz.w_chain, Dz.w_eand, Dz.w_eor, Dz.w_enot, Dz.w_ltS, Dz.w_leS, Dz.w_is, Dz.w_isnot, Dz.w_inS, Dz.w_rpr, Dz.w_itS, Dz.w_itL, Dz.w_itLs, Dz.w_itT, Dz.w_add, Dz.w_sub, Dz.w_neg, Dz.w_lt, Dz.w_le, Dz.w_gt, Dz.w_ge, Dz.w_int, Dz.w_intb, Dz.w_abs, Dz.w_max, Dz.w_min, Dz.w_lenL, Dz.w_lenT, Dz.w_lenR, Dz.wp_pur, Dz.startE, Dz.w_dtup, Dz.w_dlst, Dz.asDs_nil, Dz.asDs_cons, Dz.w_some, Dz.w_kTup, Dz.w_kLst, Dz.w_addL, Dz.w_addT, Dz.w_sl, Dz.w_oNone, Dz.w_oSome, Dz.w_asI, Dz.w_slL, Dz.w_slT, Dz.w_zp, Dz.w_itZL, Dz.w_itZT, Dz.w_rg3, Dz.w_par, Dz.w_asg, Dz.w_asD, Dz.w_fld, Dz.w_sfd, Dz.w_mk, Dz.w_pro, Dz.w_isI, Dz.w_met, Dz.w_ncb, Dz.w_tupL, Dz.w_tupT, Dz.w_listL, Dz.w_listT, Dz.w_sorted, Dz.w_minI, Dz.w_itA, Dz.w_itAt, Dz.w_itAs, Dz.w_itAz, Dz.w_inT, Dz.w_inL, Dz.w_niT, Dz.w_inD, Dz.w_eqS, Dz.w_neS, Dz.w_eqI, Dz.w_neI, Dz.w_eqB, Dz.w_neB, Dz.w_eqL, Dz.w_neL, Dz.w_eqT, Dz.w_neT, Dz.dunNe_str, Dz.dunNe_bl, Dz.dunNe_int, Dz.dunNe_lst, Dz.dunNe_tup, Dz.dunNe_non, Dz.dunEq_str, Dz.dunEq_bl, Dz.dunEq_int, Dz.dunEq_lst, Dz.dunEq_tup, Dz.dunEq_non, Dz.dunIn_ins, Dz.tBoolX_ins, Dz.w_notB, Dz.w_isB, Dz.wp_bnd, List.map_cons, List.map_nil, List.length_cons, List.length_nil, List.replicate, List.cons_append, List.nil_append, List.append_nil, List.getElem?_cons_zero, List.getElem?_cons_succ, List.set_cons_zero, List.set_cons_succ, Nat.reduceAdd, Nat.reduceSub, Nat.zero_add, Nat.sub_zero, Bool.not_true, Bool.not_false, if_true, if_false, Bool.false_eq_true, reduceIte, decide_eq_true_eq, Option.map_some, Nat.reduceLeDiff]))
  rw [isi_eq (x := .bl b) (y := .ty "bool") rfl rfl rfl (show isQ tabL (.bt "bool") (.bt "bool") = some true from kit_bb)]
  (try (simp only [Dz.wp_noE, Dz.noE_pur, Dz.w_var, Dz.w_c, Dz.w_op, Dz.w_ix, Dz.w_un, Dz.w_test, Dz.w_asB, Dz.w_not, Dz.w_and, Dz.w_or, Dz.w_if, Dz.w_sif, Dz.w_seq, Dz.after_nx, Dz.after_rt, Dz.w_next, Dz.w_ret, Dz.w_set, Dz.w_drop, Dz.w_put, Dz.w_nil, Dz.w_cons, Dz.w_cb, Dz.w_call, Dz.w_tup, Dz.w_lst, Dz.w_cell, Dz.w_for, Dz.w_of, Dz.w_rg, Dz.w_new, Dz.w_newC, Dz.w_lc, Dz.w_join, Dz.w_isS, Dz.w_chain, Dz.w_eand, Dz.w_eor, Dz.w_enot, Dz.w_ltS, Dz.w_leS, Dz.w_is, Dz.w_isnot, Dz.w_inS, Dz.w_rpr, Dz.w_itS, Dz.w_itL, Dz.w_itLs, Dz.w_itT, Dz.w_add, Dz.w_sub, Dz.w_neg, Dz.w_lt, Dz.w_le, Dz.w_gt, Dz.w_ge, Dz.w_int, Dz.w_intb, Dz.w_abs, Dz.w_max, Dz.w_min, Dz.w_lenL, Dz.w_lenT, Dz.w_lenR, Dz.wp_pur, Dz.startE, Dz.w_dtup, Dz.w_dlst, Dz.asDs_nil, Dz.asDs_cons, Dz.w_some, Dz.w_kTup, Dz.w_kLst, Dz.w_addL, Dz.w_addT, Dz.w_sl, Dz.w_oNone, Dz.w_oSome, Dz.w_asI, Dz.w_slL, Dz.w_slT, Dz.w_zp, Dz.w_itZL, Dz.w_itZT, Dz.w_rg3, Dz.w_par, Dz.w_asg, Dz.w_asD, Dz.w_fld, Dz.w_sfd, Dz.w_mk, Dz.w_pro, Dz.w_isI, Dz.w_met, Dz.w_ncb, Dz.w_tupL, Dz.w_tupT, Dz.w_listL, Dz.w_listT, Dz.w_sorted, Dz.w_minI, Dz.w_itA, Dz.w_itAt, Dz.w_itAs, Dz.w_itAz, Dz.w_inT, Dz.w_inL, Dz.w_niT, Dz.w_inD, Dz.w_eqS, Dz.w_neS, Dz.w_eqI, Dz.w_neI, Dz.w_eqB, Dz.w_neB, Dz.w_eqL, Dz.w_neL, Dz.w_eqT, Dz.w_neT, Dz.dunNe_str, Dz.dunNe_bl, Dz.dunNe_int, Dz.dunNe_lst, Dz.dunNe_tup, Dz.dunNe_non, Dz.dunEq_str, Dz.dunEq_bl, Dz.dunEq_int, Dz.dunEq_lst, Dz.dunEq_tup, Dz.dunEq_non, Dz.dunIn_ins, Dz.tBoolX_ins, Dz.w_notB, Dz.w_isB, Dz.wp_bnd, List.map_cons, List.map_nil, List.length_cons, List.length_nil, List.replicate, List.cons_append, List.nil_append, List.append_nil, List.getElem?_cons_zero, List.getElem?_cons_succ, List.set_cons_zero, List.set_cons_succ, Nat.reduceAdd, Nat.reduceSub, Nat.zero_add, Nat.sub_zero, Bool.not_true, Bool.not_false, if_true, if_false, Bool.false_eq_true, reduceIte, decide_eq_true_eq, Option.map_some, Nat.reduceLeDiff]))
  exact q
theorem is_below_i {i t : Int} (h0 : 0 ≤ i) (h1 : i < t) (h2 : t ≤ c_TOP) : f_is_below [.d (.int i), .d (.int t)] = pur (.d (.bl true)) := fn_by fun S Q q => by
  unfold b_is_below
  (try (simp only [Dz.wp_noE, Dz.noE_pur, Dz.w_var, Dz.w_c, Dz.w_op, Dz.w_ix, Dz.w_un, Dz.w_test, Dz.w_asB, Dz.w_not, Dz.w_and, Dz.w_or, Dz.w_if, Dz.w_sif, Dz.w_seq, Dz.after_nx, Dz.after_rt, Dz.w_next, Dz.w_ret, Dz.w_set, Dz.w_drop, Dz.w_put, Dz.w_nil, Dz.w_cons, Dz.w_cb, Dz.w_call, Dz.w_tup, Dz.w_lst, Dz.w_cell, Dz.w_for, Dz.w_of, Dz.w_rg, Dz.w_new, Dz.w_newC, Dz.w_lc, Dz.w_join, Dz.w_isS, Dz.w_chain, Dz.w_eand, Dz.w_eor, Dz.w_enot, Dz.w_ltS, Dz.w_leS, Dz.w_is, Dz.w_isnot, Dz.w_inS, Dz.w_rpr, Dz.w_itS, Dz.w_itL, Dz.w_itLs, Dz.w_itT, Dz.w_add, Dz.w_sub, Dz.w_neg, Dz.w_lt, Dz.w_le, Dz.w_gt, Dz.w_ge, Dz.w_int, Dz.w_intb, Dz.w_abs, Dz.w_max, Dz.w_min, Dz.w_lenL, Dz.w_lenT, Dz.w_lenR, Dz.wp_pur, Dz.startE, Dz.w_dtup, Dz.w_dlst, Dz.asDs_nil, Dz.asDs_cons, Dz.w_some, Dz.w_kTup, Dz.w_kLst, Dz.w_addL, Dz.w_addT, Dz.w_sl, Dz.w_oNone, Dz.w_oSome, Dz.w_asI, Dz.w_slL, Dz.w_slT, Dz.w_zp, Dz.w_itZL, Dz.w_itZT, Dz.w_rg3, Dz.w_par, Dz.w_asg, Dz.w_asD, Dz.w_fld, Dz.w_sfd, Dz.w_mk, Dz.w_pro, Dz.w_isI, Dz.w_met, Dz.w_ncb, Dz.w_tupL, Dz.w_tupT, Dz.w_listL, Dz.w_listT, Dz.w_sorted, Dz.w_minI, Dz.w_itA, Dz.w_itAt, Dz.w_itAs, Dz.w_itAz, Dz.w_inT, Dz.w_inL, Dz.w_niT, Dz.w_inD, Dz.w_eqS, Dz.w_neS, Dz.w_eqI, Dz.w_neI, Dz.w_eqB, Dz.w_neB, Dz.w_eqL, Dz.w_neL, Dz.w_eqT, Dz.w_neT, Dz.dunNe_str, Dz.dunNe_bl, Dz.dunNe_int, Dz.dunNe_lst, Dz.dunNe_tup, Dz.dunNe_non, Dz.dunEq_str, Dz.dunEq_bl, Dz.dunEq_int, Dz.dunEq_lst, Dz.dunEq_tup, Dz.dunEq_non, Dz.dunIn_ins, Dz.tBoolX_ins, Dz.w_notB, Dz.w_isB, Dz.wp_bnd, List.map_cons, List.map_nil, List.length_cons, List.length_nil, List.replicate, List.cons_append, List.nil_append, List.append_nil, List.getElem?_cons_zero, List.getElem?_cons_succ, List.set_cons_zero, List.set_cons_succ, Nat.reduceAdd, Nat.reduceSub, Nat.zero_add, Nat.sub_zero, Bool.not_true, Bool.not_false, if_true, if_false, Bool.false_eq_true, reduceIte, decide_eq_true_eq, Option.map_some, Nat.reduceLeDiff]))
  have e : isInt (.int i) = true := by
    show (decide (-c_TOP < i) && decide (i < c_TOP)) = true
    rw [decide_eq_true (by omega), decide_eq_true (by omega)]
    rfl
  rw [is_integer_i, e]
  (try (simp only [Dz.wp_noE, Dz.noE_pur, Dz.w_var, Dz.w_c, Dz.w_op, Dz.w_ix, Dz.w_un, Dz.w_test, Dz.w_asB, Dz.w_not, Dz.w_and, Dz.w_or, Dz.w_if, Dz.w_sif, Dz.w_seq, Dz.after_nx, Dz.after_rt, Dz.w_next, Dz.w_ret, Dz.w_set, Dz.w_drop, Dz.w_put, Dz.w_nil, Dz.w_cons, Dz.w_cb, Dz.w_call, Dz.w_tup, Dz.w_lst, Dz.w_cell, Dz.w_for, Dz.w_of, Dz.w_rg, Dz.w_new, Dz.w_newC, Dz.w_lc, Dz.w_join, Dz.w_isS, Dz.w_chain, Dz.w_eand, Dz.w_eor, Dz.w_enot, Dz.w_ltS, Dz.w_leS, Dz.w_is, Dz.w_isnot, Dz.w_inS, Dz.w_rpr, Dz.w_itS, Dz.w_itL, Dz.w_itLs, Dz.w_itT, Dz.w_add, Dz.w_sub, Dz.w_neg, Dz.w_lt, Dz.w_le, Dz.w_gt, Dz.w_ge, Dz.w_int, Dz.w_intb, Dz.w_abs, Dz.w_max, Dz.w_min, Dz.w_lenL, Dz.w_lenT, Dz.w_lenR, Dz.wp_pur, Dz.startE, Dz.w_dtup, Dz.w_dlst, Dz.asDs_nil, Dz.asDs_cons, Dz.w_some, Dz.w_kTup, Dz.w_kLst, Dz.w_addL, Dz.w_addT, Dz.w_sl, Dz.w_oNone, Dz.w_oSome, Dz.w_asI, Dz.w_slL, Dz.w_slT, Dz.w_zp, Dz.w_itZL, Dz.w_itZT, Dz.w_rg3, Dz.w_par, Dz.w_asg, Dz.w_asD, Dz.w_fld, Dz.w_sfd, Dz.w_mk, Dz.w_pro, Dz.w_isI, Dz.w_met, Dz.w_ncb, Dz.w_tupL, Dz.w_tupT, Dz.w_listL, Dz.w_listT, Dz.w_sorted, Dz.w_minI, Dz.w_itA, Dz.w_itAt, Dz.w_itAs, Dz.w_itAz, Dz.w_inT, Dz.w_inL, Dz.w_niT, Dz.w_inD, Dz.w_eqS, Dz.w_neS, Dz.w_eqI, Dz.w_neI, Dz.w_eqB, Dz.w_neB, Dz.w_eqL, Dz.w_neL, Dz.w_eqT, Dz.w_neT, Dz.dunNe_str, Dz.dunNe_bl, Dz.dunNe_int, Dz.dunNe_lst, Dz.dunNe_tup, Dz.dunNe_non, Dz.dunEq_str, Dz.dunEq_bl, Dz.dunEq_int, Dz.dunEq_lst, Dz.dunEq_tup, Dz.dunEq_non, Dz.dunIn_ins, Dz.tBoolX_ins, Dz.w_notB, Dz.w_isB, Dz.wp_bnd, List.map_cons, List.map_nil, List.length_cons, List.length_nil, List.replicate, List.cons_append, List.nil_append, List.append_nil, List.getElem?_cons_zero, List.getElem?_cons_succ, List.set_cons_zero, List.set_cons_succ, Nat.reduceAdd, Nat.reduceSub, Nat.zero_add, Nat.sub_zero, Bool.not_true, Bool.not_false, if_true, if_false, Bool.false_eq_true, reduceIte, decide_eq_true_eq, Option.map_some, Nat.reduceLeDiff]))
  rw [if_pos h0, decide_eq_true h1]
  exact q
theorem is_asc_eq {l : List Int} (h : l.Pairwise (· < ·)) (hl : l.length ≤ 100000) : f_is_ascending [.d (.tup (l.map D.int))] = pur (.d (.bl true)) := fn_by fun S Q q => by
  unfold b_is_ascending
  (try (simp only [Dz.wp_noE, Dz.noE_pur, Dz.w_var, Dz.w_c, Dz.w_op, Dz.w_ix, Dz.w_un, Dz.w_test, Dz.w_asB, Dz.w_not, Dz.w_and, Dz.w_or, Dz.w_if, Dz.w_sif, Dz.w_seq, Dz.after_nx, Dz.after_rt, Dz.w_next, Dz.w_ret, Dz.w_set, Dz.w_drop, Dz.w_put, Dz.w_nil, Dz.w_cons, Dz.w_cb, Dz.w_call, Dz.w_tup, Dz.w_lst, Dz.w_cell, Dz.w_for, Dz.w_of, Dz.w_rg, Dz.w_new, Dz.w_newC, Dz.w_lc, Dz.w_join, Dz.w_isS, Dz.w_chain, Dz.w_eand, Dz.w_eor, Dz.w_enot, Dz.w_ltS, Dz.w_leS, Dz.w_is, Dz.w_isnot, Dz.w_inS, Dz.w_rpr, Dz.w_itS, Dz.w_itL, Dz.w_itLs, Dz.w_itT, Dz.w_add, Dz.w_sub, Dz.w_neg, Dz.w_lt, Dz.w_le, Dz.w_gt, Dz.w_ge, Dz.w_int, Dz.w_intb, Dz.w_abs, Dz.w_max, Dz.w_min, Dz.w_lenL, Dz.w_lenT, Dz.w_lenR, Dz.wp_pur, Dz.startE, Dz.w_dtup, Dz.w_dlst, Dz.asDs_nil, Dz.asDs_cons, Dz.w_some, Dz.w_kTup, Dz.w_kLst, Dz.w_addL, Dz.w_addT, Dz.w_sl, Dz.w_oNone, Dz.w_oSome, Dz.w_asI, Dz.w_slL, Dz.w_slT, Dz.w_zp, Dz.w_itZL, Dz.w_itZT, Dz.w_rg3, Dz.w_par, Dz.w_asg, Dz.w_asD, Dz.w_fld, Dz.w_sfd, Dz.w_mk, Dz.w_pro, Dz.w_isI, Dz.w_met, Dz.w_ncb, Dz.w_tupL, Dz.w_tupT, Dz.w_listL, Dz.w_listT, Dz.w_sorted, Dz.w_minI, Dz.w_itA, Dz.w_itAt, Dz.w_itAs, Dz.w_itAz, Dz.w_inT, Dz.w_inL, Dz.w_niT, Dz.w_inD, Dz.w_eqS, Dz.w_neS, Dz.w_eqI, Dz.w_neI, Dz.w_eqB, Dz.w_neB, Dz.w_eqL, Dz.w_neL, Dz.w_eqT, Dz.w_neT, Dz.dunNe_str, Dz.dunNe_bl, Dz.dunNe_int, Dz.dunNe_lst, Dz.dunNe_tup, Dz.dunNe_non, Dz.dunEq_str, Dz.dunEq_bl, Dz.dunEq_int, Dz.dunEq_lst, Dz.dunEq_tup, Dz.dunEq_non, Dz.dunIn_ins, Dz.tBoolX_ins, Dz.w_notB, Dz.w_isB, Dz.wp_bnd, List.map_cons, List.map_nil, List.length_cons, List.length_nil, List.replicate, List.cons_append, List.nil_append, List.append_nil, List.getElem?_cons_zero, List.getElem?_cons_succ, List.set_cons_zero, List.set_cons_succ, Nat.reduceAdd, Nat.reduceSub, Nat.zero_add, Nat.sub_zero, Bool.not_true, Bool.not_false, if_true, if_false, Bool.false_eq_true, reduceIte, decide_eq_true_eq, Option.map_some, Nat.reduceLeDiff]))
  rw [cut_tail, ← List.map_drop, zip_ints]
  have hz : (l.zip (l.drop 1)).length ≤ l.length := by rw [List.length_zip]; exact Nat.min_le_left _ _
  rw [if_pos (by rw [List.length_map]; omega)]
  rw [lcL_map (b := fun _ => true) (ρ1 := fun p => setAll [1, 2] [.int p.1, .int p.2] (wipeE [some (.d (.tup (l.map D.int))), none, none] [1, 2])) (v := fun p => .bl true) (l.zip (l.drop 1)) fun p hp => ⟨rfl, rfl, fun _ => by
    have := asc_pairs l h p hp
    refine pur_wp fun S Q q => ?_
    show wp (eOp cLt (eVar 1) (eVar 2) [some (.d (.tup (l.map D.int))), some (.d (.int p.1)), some (.d (.int p.2))]) S Q
    (try (simp only [Dz.wp_noE, Dz.noE_pur, Dz.w_var, Dz.w_c, Dz.w_op, Dz.w_ix, Dz.w_un, Dz.w_test, Dz.w_asB, Dz.w_not, Dz.w_and, Dz.w_or, Dz.w_if, Dz.w_sif, Dz.w_seq, Dz.after_nx, Dz.after_rt, Dz.w_next, Dz.w_ret, Dz.w_set, Dz.w_drop, Dz.w_put, Dz.w_nil, Dz.w_cons, Dz.w_cb, Dz.w_call, Dz.w_tup, Dz.w_lst, Dz.w_cell, Dz.w_for, Dz.w_of, Dz.w_rg, Dz.w_new, Dz.w_newC, Dz.w_lc, Dz.w_join, Dz.w_isS, Dz.w_chain, Dz.w_eand, Dz.w_eor, Dz.w_enot, Dz.w_ltS, Dz.w_leS, Dz.w_is, Dz.w_isnot, Dz.w_inS, Dz.w_rpr, Dz.w_itS, Dz.w_itL, Dz.w_itLs, Dz.w_itT, Dz.w_add, Dz.w_sub, Dz.w_neg, Dz.w_lt, Dz.w_le, Dz.w_gt, Dz.w_ge, Dz.w_int, Dz.w_intb, Dz.w_abs, Dz.w_max, Dz.w_min, Dz.w_lenL, Dz.w_lenT, Dz.w_lenR, Dz.wp_pur, Dz.startE, Dz.w_dtup, Dz.w_dlst, Dz.asDs_nil, Dz.asDs_cons, Dz.w_some, Dz.w_kTup, Dz.w_kLst, Dz.w_addL, Dz.w_addT, Dz.w_sl, Dz.w_oNone, Dz.w_oSome, Dz.w_asI, Dz.w_slL, Dz.w_slT, Dz.w_zp, Dz.w_itZL, Dz.w_itZT, Dz.w_rg3, Dz.w_par, Dz.w_asg, Dz.w_asD, Dz.w_fld, Dz.w_sfd, Dz.w_mk, Dz.w_pro, Dz.w_isI, Dz.w_met, Dz.w_ncb, Dz.w_tupL, Dz.w_tupT, Dz.w_listL, Dz.w_listT, Dz.w_sorted, Dz.w_minI, Dz.w_itA, Dz.w_itAt, Dz.w_itAs, Dz.w_itAz, Dz.w_inT, Dz.w_inL, Dz.w_niT, Dz.w_inD, Dz.w_eqS, Dz.w_neS, Dz.w_eqI, Dz.w_neI, Dz.w_eqB, Dz.w_neB, Dz.w_eqL, Dz.w_neL, Dz.w_eqT, Dz.w_neT, Dz.dunNe_str, Dz.dunNe_bl, Dz.dunNe_int, Dz.dunNe_lst, Dz.dunNe_tup, Dz.dunNe_non, Dz.dunEq_str, Dz.dunEq_bl, Dz.dunEq_int, Dz.dunEq_lst, Dz.dunEq_tup, Dz.dunEq_non, Dz.dunIn_ins, Dz.tBoolX_ins, Dz.w_notB, Dz.w_isB, Dz.wp_bnd, List.map_cons, List.map_nil, List.length_cons, List.length_nil, List.replicate, List.cons_append, List.nil_append, List.append_nil, List.getElem?_cons_zero, List.getElem?_cons_succ, List.set_cons_zero, List.set_cons_succ, Nat.reduceAdd, Nat.reduceSub, Nat.zero_add, Nat.sub_zero, Bool.not_true, Bool.not_false, if_true, if_false, Bool.false_eq_true, reduceIte, decide_eq_true_eq, Option.map_some, Nat.reduceLeDiff]))
    rw [decide_eq_true this]
    exact q⟩]
  rw [wp_pur, w_all (bs := ((l.zip (l.drop 1)).filter fun _ => true).map fun _ => true) (boolsOf_map (fun _ => true) _)]
  have e : (((l.zip (l.drop 1)).filter fun _ => true).map fun _ => true).all id = true := by
    rw [List.all_eq_true]
    intro x hx
    obtain ⟨_, _, rfl⟩ := List.mem_map.mp hx
    rfl
  rw [e]
  exact q
theorem are_below_eq {l : List Int} {t : Int} (h : l.Pairwise (· < ·)) (hb : ∀ x ∈ l, 0 ≤ x ∧ x < t) (ht : t ≤ c_TOP) (hl : l.length ≤ 100000) : f_are_below [.d (.tup (l.map D.int)), .d (.int t)] = pur (.d (.bl true)) := fn_by fun S Q q => by
  unfold b_are_below
  (try (simp only [Dz.wp_noE, Dz.noE_pur, Dz.w_var, Dz.w_c, Dz.w_op, Dz.w_ix, Dz.w_un, Dz.w_test, Dz.w_asB, Dz.w_not, Dz.w_and, Dz.w_or, Dz.w_if, Dz.w_sif, Dz.w_seq, Dz.after_nx, Dz.after_rt, Dz.w_next, Dz.w_ret, Dz.w_set, Dz.w_drop, Dz.w_put, Dz.w_nil, Dz.w_cons, Dz.w_cb, Dz.w_call, Dz.w_tup, Dz.w_lst, Dz.w_cell, Dz.w_for, Dz.w_of, Dz.w_rg, Dz.w_new, Dz.w_newC, Dz.w_lc, Dz.w_join, Dz.w_isS, Dz.w_chain, Dz.w_eand, Dz.w_eor, Dz.w_enot, Dz.w_ltS, Dz.w_leS, Dz.w_is, Dz.w_isnot, Dz.w_inS, Dz.w_rpr, Dz.w_itS, Dz.w_itL, Dz.w_itLs, Dz.w_itT, Dz.w_add, Dz.w_sub, Dz.w_neg, Dz.w_lt, Dz.w_le, Dz.w_gt, Dz.w_ge, Dz.w_int, Dz.w_intb, Dz.w_abs, Dz.w_max, Dz.w_min, Dz.w_lenL, Dz.w_lenT, Dz.w_lenR, Dz.wp_pur, Dz.startE, Dz.w_dtup, Dz.w_dlst, Dz.asDs_nil, Dz.asDs_cons, Dz.w_some, Dz.w_kTup, Dz.w_kLst, Dz.w_addL, Dz.w_addT, Dz.w_sl, Dz.w_oNone, Dz.w_oSome, Dz.w_asI, Dz.w_slL, Dz.w_slT, Dz.w_zp, Dz.w_itZL, Dz.w_itZT, Dz.w_rg3, Dz.w_par, Dz.w_asg, Dz.w_asD, Dz.w_fld, Dz.w_sfd, Dz.w_mk, Dz.w_pro, Dz.w_isI, Dz.w_met, Dz.w_ncb, Dz.w_tupL, Dz.w_tupT, Dz.w_listL, Dz.w_listT, Dz.w_sorted, Dz.w_minI, Dz.w_itA, Dz.w_itAt, Dz.w_itAs, Dz.w_itAz, Dz.w_inT, Dz.w_inL, Dz.w_niT, Dz.w_inD, Dz.w_eqS, Dz.w_neS, Dz.w_eqI, Dz.w_neI, Dz.w_eqB, Dz.w_neB, Dz.w_eqL, Dz.w_neL, Dz.w_eqT, Dz.w_neT, Dz.dunNe_str, Dz.dunNe_bl, Dz.dunNe_int, Dz.dunNe_lst, Dz.dunNe_tup, Dz.dunNe_non, Dz.dunEq_str, Dz.dunEq_bl, Dz.dunEq_int, Dz.dunEq_lst, Dz.dunEq_tup, Dz.dunEq_non, Dz.dunIn_ins, Dz.tBoolX_ins, Dz.w_notB, Dz.w_isB, Dz.wp_bnd, List.map_cons, List.map_nil, List.length_cons, List.length_nil, List.replicate, List.cons_append, List.nil_append, List.append_nil, List.getElem?_cons_zero, List.getElem?_cons_succ, List.set_cons_zero, List.set_cons_succ, Nat.reduceAdd, Nat.reduceSub, Nat.zero_add, Nat.sub_zero, Bool.not_true, Bool.not_false, if_true, if_false, Bool.false_eq_true, reduceIte, decide_eq_true_eq, Option.map_some, Nat.reduceLeDiff]))
  rw [isi_eq (x := .tup (l.map D.int)) (y := .ty "tuple") rfl rfl rfl (show isQ tabL (.bt "tuple") (.bt "tuple") = some true from kit_tt)]
  (try (simp only [Dz.wp_noE, Dz.noE_pur, Dz.w_var, Dz.w_c, Dz.w_op, Dz.w_ix, Dz.w_un, Dz.w_test, Dz.w_asB, Dz.w_not, Dz.w_and, Dz.w_or, Dz.w_if, Dz.w_sif, Dz.w_seq, Dz.after_nx, Dz.after_rt, Dz.w_next, Dz.w_ret, Dz.w_set, Dz.w_drop, Dz.w_put, Dz.w_nil, Dz.w_cons, Dz.w_cb, Dz.w_call, Dz.w_tup, Dz.w_lst, Dz.w_cell, Dz.w_for, Dz.w_of, Dz.w_rg, Dz.w_new, Dz.w_newC, Dz.w_lc, Dz.w_join, Dz.w_isS, Dz.w_chain, Dz.w_eand, Dz.w_eor, Dz.w_enot, Dz.w_ltS, Dz.w_leS, Dz.w_is, Dz.w_isnot, Dz.w_inS, Dz.w_rpr, Dz.w_itS, Dz.w_itL, Dz.w_itLs, Dz.w_itT, Dz.w_add, Dz.w_sub, Dz.w_neg, Dz.w_lt, Dz.w_le, Dz.w_gt, Dz.w_ge, Dz.w_int, Dz.w_intb, Dz.w_abs, Dz.w_max, Dz.w_min, Dz.w_lenL, Dz.w_lenT, Dz.w_lenR, Dz.wp_pur, Dz.startE, Dz.w_dtup, Dz.w_dlst, Dz.asDs_nil, Dz.asDs_cons, Dz.w_some, Dz.w_kTup, Dz.w_kLst, Dz.w_addL, Dz.w_addT, Dz.w_sl, Dz.w_oNone, Dz.w_oSome, Dz.w_asI, Dz.w_slL, Dz.w_slT, Dz.w_zp, Dz.w_itZL, Dz.w_itZT, Dz.w_rg3, Dz.w_par, Dz.w_asg, Dz.w_asD, Dz.w_fld, Dz.w_sfd, Dz.w_mk, Dz.w_pro, Dz.w_isI, Dz.w_met, Dz.w_ncb, Dz.w_tupL, Dz.w_tupT, Dz.w_listL, Dz.w_listT, Dz.w_sorted, Dz.w_minI, Dz.w_itA, Dz.w_itAt, Dz.w_itAs, Dz.w_itAz, Dz.w_inT, Dz.w_inL, Dz.w_niT, Dz.w_inD, Dz.w_eqS, Dz.w_neS, Dz.w_eqI, Dz.w_neI, Dz.w_eqB, Dz.w_neB, Dz.w_eqL, Dz.w_neL, Dz.w_eqT, Dz.w_neT, Dz.dunNe_str, Dz.dunNe_bl, Dz.dunNe_int, Dz.dunNe_lst, Dz.dunNe_tup, Dz.dunNe_non, Dz.dunEq_str, Dz.dunEq_bl, Dz.dunEq_int, Dz.dunEq_lst, Dz.dunEq_tup, Dz.dunEq_non, Dz.dunIn_ins, Dz.tBoolX_ins, Dz.w_notB, Dz.w_isB, Dz.wp_bnd, List.map_cons, List.map_nil, List.length_cons, List.length_nil, List.replicate, List.cons_append, List.nil_append, List.append_nil, List.getElem?_cons_zero, List.getElem?_cons_succ, List.set_cons_zero, List.set_cons_succ, Nat.reduceAdd, Nat.reduceSub, Nat.zero_add, Nat.sub_zero, Bool.not_true, Bool.not_false, if_true, if_false, Bool.false_eq_true, reduceIte, decide_eq_true_eq, Option.map_some, Nat.reduceLeDiff]))
  rw [if_pos (by rw [List.length_map]; exact hl)]
  rw [lcL_all (v := fun _ => .bl true) l fun n hn => by
    refine pur_wp fun S Q q => ?_
    show wp (eCall f_is_below (aCons (eVar 2) (aCons (eVar 1) aNil)) [some (.d (.tup (l.map D.int))), some (.d (.int t)), some (.d (.int n))]) S Q
    (try (simp only [Dz.wp_noE, Dz.noE_pur, Dz.w_var, Dz.w_c, Dz.w_op, Dz.w_ix, Dz.w_un, Dz.w_test, Dz.w_asB, Dz.w_not, Dz.w_and, Dz.w_or, Dz.w_if, Dz.w_sif, Dz.w_seq, Dz.after_nx, Dz.after_rt, Dz.w_next, Dz.w_ret, Dz.w_set, Dz.w_drop, Dz.w_put, Dz.w_nil, Dz.w_cons, Dz.w_cb, Dz.w_call, Dz.w_tup, Dz.w_lst, Dz.w_cell, Dz.w_for, Dz.w_of, Dz.w_rg, Dz.w_new, Dz.w_newC, Dz.w_lc, Dz.w_join, Dz.w_isS, Dz.w_chain, Dz.w_eand, Dz.w_eor, Dz.w_enot, Dz.w_ltS, Dz.w_leS, Dz.w_is, Dz.w_isnot, Dz.w_inS, Dz.w_rpr, Dz.w_itS, Dz.w_itL, Dz.w_itLs, Dz.w_itT, Dz.w_add, Dz.w_sub, Dz.w_neg, Dz.w_lt, Dz.w_le, Dz.w_gt, Dz.w_ge, Dz.w_int, Dz.w_intb, Dz.w_abs, Dz.w_max, Dz.w_min, Dz.w_lenL, Dz.w_lenT, Dz.w_lenR, Dz.wp_pur, Dz.startE, Dz.w_dtup, Dz.w_dlst, Dz.asDs_nil, Dz.asDs_cons, Dz.w_some, Dz.w_kTup, Dz.w_kLst, Dz.w_addL, Dz.w_addT, Dz.w_sl, Dz.w_oNone, Dz.w_oSome, Dz.w_asI, Dz.w_slL, Dz.w_slT, Dz.w_zp, Dz.w_itZL, Dz.w_itZT, Dz.w_rg3, Dz.w_par, Dz.w_asg, Dz.w_asD, Dz.w_fld, Dz.w_sfd, Dz.w_mk, Dz.w_pro, Dz.w_isI, Dz.w_met, Dz.w_ncb, Dz.w_tupL, Dz.w_tupT, Dz.w_listL, Dz.w_listT, Dz.w_sorted, Dz.w_minI, Dz.w_itA, Dz.w_itAt, Dz.w_itAs, Dz.w_itAz, Dz.w_inT, Dz.w_inL, Dz.w_niT, Dz.w_inD, Dz.w_eqS, Dz.w_neS, Dz.w_eqI, Dz.w_neI, Dz.w_eqB, Dz.w_neB, Dz.w_eqL, Dz.w_neL, Dz.w_eqT, Dz.w_neT, Dz.dunNe_str, Dz.dunNe_bl, Dz.dunNe_int, Dz.dunNe_lst, Dz.dunNe_tup, Dz.dunNe_non, Dz.dunEq_str, Dz.dunEq_bl, Dz.dunEq_int, Dz.dunEq_lst, Dz.dunEq_tup, Dz.dunEq_non, Dz.dunIn_ins, Dz.tBoolX_ins, Dz.w_notB, Dz.w_isB, Dz.wp_bnd, List.map_cons, List.map_nil, List.length_cons, List.length_nil, List.replicate, List.cons_append, List.nil_append, List.append_nil, List.getElem?_cons_zero, List.getElem?_cons_succ, List.set_cons_zero, List.set_cons_succ, Nat.reduceAdd, Nat.reduceSub, Nat.zero_add, Nat.sub_zero, Bool.not_true, Bool.not_false, if_true, if_false, Bool.false_eq_true, reduceIte, decide_eq_true_eq, Option.map_some, Nat.reduceLeDiff]))
    rw [is_below_i (hb n hn).1 (hb n hn).2 ht]
    exact wp_pur.mpr q]
  rw [wp_pur, w_all (bs := l.map fun _ => true) (boolsOf_map (fun _ => true) _)]
  have e : (l.map fun _ => true).all id = true := by
    rw [List.all_eq_true]
    intro x hx
    obtain ⟨_, _, rfl⟩ := List.mem_map.mp hx
    rfl
  rw [e]
  (try (simp only [Dz.wp_noE, Dz.noE_pur, Dz.w_var, Dz.w_c, Dz.w_op, Dz.w_ix, Dz.w_un, Dz.w_test, Dz.w_asB, Dz.w_not, Dz.w_and, Dz.w_or, Dz.w_if, Dz.w_sif, Dz.w_seq, Dz.after_nx, Dz.after_rt, Dz.w_next, Dz.w_ret, Dz.w_set, Dz.w_drop, Dz.w_put, Dz.w_nil, Dz.w_cons, Dz.w_cb, Dz.w_call, Dz.w_tup, Dz.w_lst, Dz.w_cell, Dz.w_for, Dz.w_of, Dz.w_rg, Dz.w_new, Dz.w_newC, Dz.w_lc, Dz.w_join, Dz.w_isS, Dz.w_chain, Dz.w_eand, Dz.w_eor, Dz.w_enot, Dz.w_ltS, Dz.w_leS, Dz.w_is, Dz.w_isnot, Dz.w_inS, Dz.w_rpr, Dz.w_itS, Dz.w_itL, Dz.w_itLs, Dz.w_itT, Dz.w_add, Dz.w_sub, Dz.w_neg, Dz.w_lt, Dz.w_le, Dz.w_gt, Dz.w_ge, Dz.w_int, Dz.w_intb, Dz.w_abs, Dz.w_max, Dz.w_min, Dz.w_lenL, Dz.w_lenT, Dz.w_lenR, Dz.wp_pur, Dz.startE, Dz.w_dtup, Dz.w_dlst, Dz.asDs_nil, Dz.asDs_cons, Dz.w_some, Dz.w_kTup, Dz.w_kLst, Dz.w_addL, Dz.w_addT, Dz.w_sl, Dz.w_oNone, Dz.w_oSome, Dz.w_asI, Dz.w_slL, Dz.w_slT, Dz.w_zp, Dz.w_itZL, Dz.w_itZT, Dz.w_rg3, Dz.w_par, Dz.w_asg, Dz.w_asD, Dz.w_fld, Dz.w_sfd, Dz.w_mk, Dz.w_pro, Dz.w_isI, Dz.w_met, Dz.w_ncb, Dz.w_tupL, Dz.w_tupT, Dz.w_listL, Dz.w_listT, Dz.w_sorted, Dz.w_minI, Dz.w_itA, Dz.w_itAt, Dz.w_itAs, Dz.w_itAz, Dz.w_inT, Dz.w_inL, Dz.w_niT, Dz.w_inD, Dz.w_eqS, Dz.w_neS, Dz.w_eqI, Dz.w_neI, Dz.w_eqB, Dz.w_neB, Dz.w_eqL, Dz.w_neL, Dz.w_eqT, Dz.w_neT, Dz.dunNe_str, Dz.dunNe_bl, Dz.dunNe_int, Dz.dunNe_lst, Dz.dunNe_tup, Dz.dunNe_non, Dz.dunEq_str, Dz.dunEq_bl, Dz.dunEq_int, Dz.dunEq_lst, Dz.dunEq_tup, Dz.dunEq_non, Dz.dunIn_ins, Dz.tBoolX_ins, Dz.w_notB, Dz.w_isB, Dz.wp_bnd, List.map_cons, List.map_nil, List.length_cons, List.length_nil, List.replicate, List.cons_append, List.nil_append, List.append_nil, List.getElem?_cons_zero, List.getElem?_cons_succ, List.set_cons_zero, List.set_cons_succ, Nat.reduceAdd, Nat.reduceSub, Nat.zero_add, Nat.sub_zero, Bool.not_true, Bool.not_false, if_true, if_false, Bool.false_eq_true, reduceIte, decide_eq_true_eq, Option.map_some, Nat.reduceLeDiff]))
  rw [is_asc_eq h hl]
  exact wp_pur.mpr q

/-! ### periods and firsts -/
open Lim
theorem has_period_eq {l : List Int} {per q : Int} (h1 : 1 ≤ per) (h2 : per ≤ 2000) (hl : l.length ≤ 100000) : f_has_period [.d (.tup (l.map D.int)), .d (.int per), .d (.int q)] = pur (.d (.bl (hasPer l per q))) := fn_by fun S Q z => by
  unfold b_has_period
  (try (simp only [Dz.wp_noE, Dz.noE_pur, Dz.w_var, Dz.w_c, Dz.w_op, Dz.w_ix, Dz.w_un, Dz.w_test, Dz.w_asB, Dz.w_not, Dz.w_and, Dz.w_or, Dz.w_if, Dz.w_sif, Dz.w_seq, Dz.after_nx, Dz.after_rt, Dz.w_next, Dz.w_ret, Dz.w_set, Dz.w_drop, Dz.w_put, Dz.w_nil, Dz.w_cons, Dz.w_cb, Dz.w_call, Dz.w_tup, Dz.w_lst, Dz.w_cell, Dz.w_for, Dz.w_of, Dz.w_rg, Dz.w_new, Dz.w_newC, Dz.w_lc, Dz.w_join, Dz.w_isS, Dz.w_chain, Dz.w_eand, Dz.w_eor, Dz.w_enot, Dz.w_ltS, Dz.w_leS, Dz.w_is, Dz.w_isnot, Dz.w_inS, Dz.w_rpr, Dz.w_itS, Dz.w_itL, Dz.w_itLs, Dz.w_itT, Dz.w_add, Dz.w_sub, Dz.w_neg, Dz.w_lt, Dz.w_le, Dz.w_gt, Dz.w_ge, Dz.w_int, Dz.w_intb, Dz.w_abs, Dz.w_max, Dz.w_min, Dz.w_lenL, Dz.w_lenT, Dz.w_lenR, Dz.wp_pur, Dz.startE, Dz.w_dtup, Dz.w_dlst, Dz.asDs_nil, Dz.asDs_cons, Dz.w_some, Dz.w_kTup, Dz.w_kLst, Dz.w_addL, Dz.w_addT, Dz.w_sl, Dz.w_oNone, Dz.w_oSome, Dz.w_asI, Dz.w_slL, Dz.w_slT, Dz.w_zp, Dz.w_itZL, Dz.w_itZT, Dz.w_rg3, Dz.w_par, Dz.w_asg, Dz.w_asD, Dz.w_fld, Dz.w_sfd, Dz.w_mk, Dz.w_pro, Dz.w_isI, Dz.w_met, Dz.w_ncb, Dz.w_tupL, Dz.w_tupT, Dz.w_listL, Dz.w_listT, Dz.w_sorted, Dz.w_minI, Dz.w_itA, Dz.w_itAt, Dz.w_itAs, Dz.w_itAz, Dz.w_inT, Dz.w_inL, Dz.w_niT, Dz.w_inD, Dz.w_eqS, Dz.w_neS, Dz.w_eqI, Dz.w_neI, Dz.w_eqB, Dz.w_neB, Dz.w_eqL, Dz.w_neL, Dz.w_eqT, Dz.w_neT, Dz.dunNe_str, Dz.dunNe_bl, Dz.dunNe_int, Dz.dunNe_lst, Dz.dunNe_tup, Dz.dunNe_non, Dz.dunEq_str, Dz.dunEq_bl, Dz.dunEq_int, Dz.dunEq_lst, Dz.dunEq_tup, Dz.dunEq_non, Dz.dunIn_ins, Dz.tBoolX_ins, Dz.w_notB, Dz.w_isB, Dz.wp_bnd, List.map_cons, List.map_nil, List.length_cons, List.length_nil, List.replicate, List.cons_append, List.nil_append, List.append_nil, List.getElem?_cons_zero, List.getElem?_cons_succ, List.set_cons_zero, List.set_cons_succ, Nat.reduceAdd, Nat.reduceSub, Nat.zero_add, Nat.sub_zero, Bool.not_true, Bool.not_false, if_true, if_false, Bool.false_eq_true, reduceIte, decide_eq_true_eq, Option.map_some, Nat.reduceLeDiff]))
  rw [w_dc' (l := l) (by rfl) hl fun n => ⟨rfl, rfl⟩]
  rw [w_itR ⟨by omega, by omega⟩, dInts_ints, if_pos (by rw [List.length_map, ints_len]; omega)]
  rw [lcL_all (v := fun r => .bl (decide (r ∈ l) == decide ((r + q) % per ∈ l))) (Lim.upto 0 per.toNat) fun n hn => by
    refine pur_wp fun S Q z => ?_
    show wp (eOp cEqX (eOp cIn2 (eVar 4) (eVar 3)) (eOp cIn2 (eOp opMod (eOp opAdd (eVar 4) (eVar 2)) (eVar 1)) (eVar 3)) [some (.d (.tup (l.map D.int))), some (.d (.int per)), some (.d (.int q)), some (.d (.dct (ksI l))), some (.d (.int n))]) S Q
    (try (simp only [Dz.wp_noE, Dz.noE_pur, Dz.w_var, Dz.w_c, Dz.w_op, Dz.w_ix, Dz.w_un, Dz.w_test, Dz.w_asB, Dz.w_not, Dz.w_and, Dz.w_or, Dz.w_if, Dz.w_sif, Dz.w_seq, Dz.after_nx, Dz.after_rt, Dz.w_next, Dz.w_ret, Dz.w_set, Dz.w_drop, Dz.w_put, Dz.w_nil, Dz.w_cons, Dz.w_cb, Dz.w_call, Dz.w_tup, Dz.w_lst, Dz.w_cell, Dz.w_for, Dz.w_of, Dz.w_rg, Dz.w_new, Dz.w_newC, Dz.w_lc, Dz.w_join, Dz.w_isS, Dz.w_chain, Dz.w_eand, Dz.w_eor, Dz.w_enot, Dz.w_ltS, Dz.w_leS, Dz.w_is, Dz.w_isnot, Dz.w_inS, Dz.w_rpr, Dz.w_itS, Dz.w_itL, Dz.w_itLs, Dz.w_itT, Dz.w_add, Dz.w_sub, Dz.w_neg, Dz.w_lt, Dz.w_le, Dz.w_gt, Dz.w_ge, Dz.w_int, Dz.w_intb, Dz.w_abs, Dz.w_max, Dz.w_min, Dz.w_lenL, Dz.w_lenT, Dz.w_lenR, Dz.wp_pur, Dz.startE, Dz.w_dtup, Dz.w_dlst, Dz.asDs_nil, Dz.asDs_cons, Dz.w_some, Dz.w_kTup, Dz.w_kLst, Dz.w_addL, Dz.w_addT, Dz.w_sl, Dz.w_oNone, Dz.w_oSome, Dz.w_asI, Dz.w_slL, Dz.w_slT, Dz.w_zp, Dz.w_itZL, Dz.w_itZT, Dz.w_rg3, Dz.w_par, Dz.w_asg, Dz.w_asD, Dz.w_fld, Dz.w_sfd, Dz.w_mk, Dz.w_pro, Dz.w_isI, Dz.w_met, Dz.w_ncb, Dz.w_tupL, Dz.w_tupT, Dz.w_listL, Dz.w_listT, Dz.w_sorted, Dz.w_minI, Dz.w_itA, Dz.w_itAt, Dz.w_itAs, Dz.w_itAz, Dz.w_inT, Dz.w_inL, Dz.w_niT, Dz.w_inD, Dz.w_eqS, Dz.w_neS, Dz.w_eqI, Dz.w_neI, Dz.w_eqB, Dz.w_neB, Dz.w_eqL, Dz.w_neL, Dz.w_eqT, Dz.w_neT, Dz.dunNe_str, Dz.dunNe_bl, Dz.dunNe_int, Dz.dunNe_lst, Dz.dunNe_tup, Dz.dunNe_non, Dz.dunEq_str, Dz.dunEq_bl, Dz.dunEq_int, Dz.dunEq_lst, Dz.dunEq_tup, Dz.dunEq_non, Dz.dunIn_ins, Dz.tBoolX_ins, Dz.w_notB, Dz.w_isB, Dz.wp_bnd, List.map_cons, List.map_nil, List.length_cons, List.length_nil, List.replicate, List.cons_append, List.nil_append, List.append_nil, List.getElem?_cons_zero, List.getElem?_cons_succ, List.set_cons_zero, List.set_cons_succ, Nat.reduceAdd, Nat.reduceSub, Nat.zero_add, Nat.sub_zero, Bool.not_true, Bool.not_false, if_true, if_false, Bool.false_eq_true, reduceIte, decide_eq_true_eq, Option.map_some, Nat.reduceLeDiff]))
    rw [w_mod (by omega)]
    (try (simp only [Dz.wp_noE, Dz.noE_pur, Dz.w_var, Dz.w_c, Dz.w_op, Dz.w_ix, Dz.w_un, Dz.w_test, Dz.w_asB, Dz.w_not, Dz.w_and, Dz.w_or, Dz.w_if, Dz.w_sif, Dz.w_seq, Dz.after_nx, Dz.after_rt, Dz.w_next, Dz.w_ret, Dz.w_set, Dz.w_drop, Dz.w_put, Dz.w_nil, Dz.w_cons, Dz.w_cb, Dz.w_call, Dz.w_tup, Dz.w_lst, Dz.w_cell, Dz.w_for, Dz.w_of, Dz.w_rg, Dz.w_new, Dz.w_newC, Dz.w_lc, Dz.w_join, Dz.w_isS, Dz.w_chain, Dz.w_eand, Dz.w_eor, Dz.w_enot, Dz.w_ltS, Dz.w_leS, Dz.w_is, Dz.w_isnot, Dz.w_inS, Dz.w_rpr, Dz.w_itS, Dz.w_itL, Dz.w_itLs, Dz.w_itT, Dz.w_add, Dz.w_sub, Dz.w_neg, Dz.w_lt, Dz.w_le, Dz.w_gt, Dz.w_ge, Dz.w_int, Dz.w_intb, Dz.w_abs, Dz.w_max, Dz.w_min, Dz.w_lenL, Dz.w_lenT, Dz.w_lenR, Dz.wp_pur, Dz.startE, Dz.w_dtup, Dz.w_dlst, Dz.asDs_nil, Dz.asDs_cons, Dz.w_some, Dz.w_kTup, Dz.w_kLst, Dz.w_addL, Dz.w_addT, Dz.w_sl, Dz.w_oNone, Dz.w_oSome, Dz.w_asI, Dz.w_slL, Dz.w_slT, Dz.w_zp, Dz.w_itZL, Dz.w_itZT, Dz.w_rg3, Dz.w_par, Dz.w_asg, Dz.w_asD, Dz.w_fld, Dz.w_sfd, Dz.w_mk, Dz.w_pro, Dz.w_isI, Dz.w_met, Dz.w_ncb, Dz.w_tupL, Dz.w_tupT, Dz.w_listL, Dz.w_listT, Dz.w_sorted, Dz.w_minI, Dz.w_itA, Dz.w_itAt, Dz.w_itAs, Dz.w_itAz, Dz.w_inT, Dz.w_inL, Dz.w_niT, Dz.w_inD, Dz.w_eqS, Dz.w_neS, Dz.w_eqI, Dz.w_neI, Dz.w_eqB, Dz.w_neB, Dz.w_eqL, Dz.w_neL, Dz.w_eqT, Dz.w_neT, Dz.dunNe_str, Dz.dunNe_bl, Dz.dunNe_int, Dz.dunNe_lst, Dz.dunNe_tup, Dz.dunNe_non, Dz.dunEq_str, Dz.dunEq_bl, Dz.dunEq_int, Dz.dunEq_lst, Dz.dunEq_tup, Dz.dunEq_non, Dz.dunIn_ins, Dz.tBoolX_ins, Dz.w_notB, Dz.w_isB, Dz.wp_bnd, List.map_cons, List.map_nil, List.length_cons, List.length_nil, List.replicate, List.cons_append, List.nil_append, List.append_nil, List.getElem?_cons_zero, List.getElem?_cons_succ, List.set_cons_zero, List.set_cons_succ, Nat.reduceAdd, Nat.reduceSub, Nat.zero_add, Nat.sub_zero, Bool.not_true, Bool.not_false, if_true, if_false, Bool.false_eq_true, reduceIte, decide_eq_true_eq, Option.map_some, Nat.reduceLeDiff]))
    rw [hasK_ints, hasK_ints]
    exact z]
  rw [wp_pur, w_all (bs := (Lim.upto 0 per.toNat).map fun r => decide (r ∈ l) == decide ((r + q) % per ∈ l)) (boolsOf_map _ _)]
  have e : ((Lim.upto 0 per.toNat).map fun r => decide (r ∈ l) == decide ((r + q) % per ∈ l)).all id = hasPer l per q := by
    unfold hasPer
    rw [List.all_map]
    rfl
  rw [e]
  exact z
theorem least_period_eq {l : List Int} {per : Int} (h1 : 1 ≤ per) (h2 : per ≤ 2000) (hl : l.length ≤ 100000) : f_least_period [.d (.tup (l.map D.int)), .d (.int per)] = pur (.d (.int (lper l per))) := fn_by fun S Q z => by
  unfold b_least_period
  (try (simp only [Dz.wp_noE, Dz.noE_pur, Dz.w_var, Dz.w_c, Dz.w_op, Dz.w_ix, Dz.w_un, Dz.w_test, Dz.w_asB, Dz.w_not, Dz.w_and, Dz.w_or, Dz.w_if, Dz.w_sif, Dz.w_seq, Dz.after_nx, Dz.after_rt, Dz.w_next, Dz.w_ret, Dz.w_set, Dz.w_drop, Dz.w_put, Dz.w_nil, Dz.w_cons, Dz.w_cb, Dz.w_call, Dz.w_tup, Dz.w_lst, Dz.w_cell, Dz.w_for, Dz.w_of, Dz.w_rg, Dz.w_new, Dz.w_newC, Dz.w_lc, Dz.w_join, Dz.w_isS, Dz.w_chain, Dz.w_eand, Dz.w_eor, Dz.w_enot, Dz.w_ltS, Dz.w_leS, Dz.w_is, Dz.w_isnot, Dz.w_inS, Dz.w_rpr, Dz.w_itS, Dz.w_itL, Dz.w_itLs, Dz.w_itT, Dz.w_add, Dz.w_sub, Dz.w_neg, Dz.w_lt, Dz.w_le, Dz.w_gt, Dz.w_ge, Dz.w_int, Dz.w_intb, Dz.w_abs, Dz.w_max, Dz.w_min, Dz.w_lenL, Dz.w_lenT, Dz.w_lenR, Dz.wp_pur, Dz.startE, Dz.w_dtup, Dz.w_dlst, Dz.asDs_nil, Dz.asDs_cons, Dz.w_some, Dz.w_kTup, Dz.w_kLst, Dz.w_addL, Dz.w_addT, Dz.w_sl, Dz.w_oNone, Dz.w_oSome, Dz.w_asI, Dz.w_slL, Dz.w_slT, Dz.w_zp, Dz.w_itZL, Dz.w_itZT, Dz.w_rg3, Dz.w_par, Dz.w_asg, Dz.w_asD, Dz.w_fld, Dz.w_sfd, Dz.w_mk, Dz.w_pro, Dz.w_isI, Dz.w_met, Dz.w_ncb, Dz.w_tupL, Dz.w_tupT, Dz.w_listL, Dz.w_listT, Dz.w_sorted, Dz.w_minI, Dz.w_itA, Dz.w_itAt, Dz.w_itAs, Dz.w_itAz, Dz.w_inT, Dz.w_inL, Dz.w_niT, Dz.w_inD, Dz.w_eqS, Dz.w_neS, Dz.w_eqI, Dz.w_neI, Dz.w_eqB, Dz.w_neB, Dz.w_eqL, Dz.w_neL, Dz.w_eqT, Dz.w_neT, Dz.dunNe_str, Dz.dunNe_bl, Dz.dunNe_int, Dz.dunNe_lst, Dz.dunNe_tup, Dz.dunNe_non, Dz.dunEq_str, Dz.dunEq_bl, Dz.dunEq_int, Dz.dunEq_lst, Dz.dunEq_tup, Dz.dunEq_non, Dz.dunIn_ins, Dz.tBoolX_ins, Dz.w_notB, Dz.w_isB, Dz.wp_bnd, List.map_cons, List.map_nil, List.length_cons, List.length_nil, List.replicate, List.cons_append, List.nil_append, List.append_nil, List.getElem?_cons_zero, List.getElem?_cons_succ, List.set_cons_zero, List.set_cons_succ, Nat.reduceAdd, Nat.reduceSub, Nat.zero_add, Nat.sub_zero, Bool.not_true, Bool.not_false, if_true, if_false, Bool.false_eq_true, reduceIte, decide_eq_true_eq, Option.map_some, Nat.reduceLeDiff]))
  rw [w_itR2 ⟨by omega, by omega⟩, dInts_ints, show (per + 1 - 1).toNat = per.toNat by omega, if_pos (by rw [List.length_map, ints_len]; omega)]
  rw [lcL_ints (b := fun q => decide (per % q = 0) && hasPer l per q) (v := D.int) (Lim.upto 1 per.toNat) fun n hn => by
    rw [mem_ints] at hn
    refine ⟨pur_wp fun S Q z => ?_, fun _ => rfl⟩
    show wp (bAnd (eTest (eOp cEqX (eOp opMod (eVar 1) (eVar 2)) (eC (.int 0)))) (eTest (eCall f_has_period (aCons (eVar 0) (aCons (eVar 1) (aCons (eVar 2) aNil))))) [some (.d (.tup (l.map D.int))), some (.d (.int per)), some (.d (.int n))]) S Q
    (try (simp only [Dz.wp_noE, Dz.noE_pur, Dz.w_var, Dz.w_c, Dz.w_op, Dz.w_ix, Dz.w_un, Dz.w_test, Dz.w_asB, Dz.w_not, Dz.w_and, Dz.w_or, Dz.w_if, Dz.w_sif, Dz.w_seq, Dz.after_nx, Dz.after_rt, Dz.w_next, Dz.w_ret, Dz.w_set, Dz.w_drop, Dz.w_put, Dz.w_nil, Dz.w_cons, Dz.w_cb, Dz.w_call, Dz.w_tup, Dz.w_lst, Dz.w_cell, Dz.w_for, Dz.w_of, Dz.w_rg, Dz.w_new, Dz.w_newC, Dz.w_lc, Dz.w_join, Dz.w_isS, Dz.w_chain, Dz.w_eand, Dz.w_eor, Dz.w_enot, Dz.w_ltS, Dz.w_leS, Dz.w_is, Dz.w_isnot, Dz.w_inS, Dz.w_rpr, Dz.w_itS, Dz.w_itL, Dz.w_itLs, Dz.w_itT, Dz.w_add, Dz.w_sub, Dz.w_neg, Dz.w_lt, Dz.w_le, Dz.w_gt, Dz.w_ge, Dz.w_int, Dz.w_intb, Dz.w_abs, Dz.w_max, Dz.w_min, Dz.w_lenL, Dz.w_lenT, Dz.w_lenR, Dz.wp_pur, Dz.startE, Dz.w_dtup, Dz.w_dlst, Dz.asDs_nil, Dz.asDs_cons, Dz.w_some, Dz.w_kTup, Dz.w_kLst, Dz.w_addL, Dz.w_addT, Dz.w_sl, Dz.w_oNone, Dz.w_oSome, Dz.w_asI, Dz.w_slL, Dz.w_slT, Dz.w_zp, Dz.w_itZL, Dz.w_itZT, Dz.w_rg3, Dz.w_par, Dz.w_asg, Dz.w_asD, Dz.w_fld, Dz.w_sfd, Dz.w_mk, Dz.w_pro, Dz.w_isI, Dz.w_met, Dz.w_ncb, Dz.w_tupL, Dz.w_tupT, Dz.w_listL, Dz.w_listT, Dz.w_sorted, Dz.w_minI, Dz.w_itA, Dz.w_itAt, Dz.w_itAs, Dz.w_itAz, Dz.w_inT, Dz.w_inL, Dz.w_niT, Dz.w_inD, Dz.w_eqS, Dz.w_neS, Dz.w_eqI, Dz.w_neI, Dz.w_eqB, Dz.w_neB, Dz.w_eqL, Dz.w_neL, Dz.w_eqT, Dz.w_neT, Dz.dunNe_str, Dz.dunNe_bl, Dz.dunNe_int, Dz.dunNe_lst, Dz.dunNe_tup, Dz.dunNe_non, Dz.dunEq_str, Dz.dunEq_bl, Dz.dunEq_int, Dz.dunEq_lst, Dz.dunEq_tup, Dz.dunEq_non, Dz.dunIn_ins, Dz.tBoolX_ins, Dz.w_notB, Dz.w_isB, Dz.wp_bnd, List.map_cons, List.map_nil, List.length_cons, List.length_nil, List.replicate, List.cons_append, List.nil_append, List.append_nil, List.getElem?_cons_zero, List.getElem?_cons_succ, List.set_cons_zero, List.set_cons_succ, Nat.reduceAdd, Nat.reduceSub, Nat.zero_add, Nat.sub_zero, Bool.not_true, Bool.not_false, if_true, if_false, Bool.false_eq_true, reduceIte, decide_eq_true_eq, Option.map_some, Nat.reduceLeDiff]))
    rw [w_mod (by omega)]
    (try (simp only [Dz.wp_noE, Dz.noE_pur, Dz.w_var, Dz.w_c, Dz.w_op, Dz.w_ix, Dz.w_un, Dz.w_test, Dz.w_asB, Dz.w_not, Dz.w_and, Dz.w_or, Dz.w_if, Dz.w_sif, Dz.w_seq, Dz.after_nx, Dz.after_rt, Dz.w_next, Dz.w_ret, Dz.w_set, Dz.w_drop, Dz.w_put, Dz.w_nil, Dz.w_cons, Dz.w_cb, Dz.w_call, Dz.w_tup, Dz.w_lst, Dz.w_cell, Dz.w_for, Dz.w_of, Dz.w_rg, Dz.w_new, Dz.w_newC, Dz.w_lc, Dz.w_join, Dz.w_isS, Dz.w_chain, Dz.w_eand, Dz.w_eor, Dz.w_enot, Dz.w_ltS, Dz.w_leS, Dz.w_is, Dz.w_isnot, Dz.w_inS, Dz.w_rpr, Dz.w_itS, Dz.w_itL, Dz.w_itLs, Dz.w_itT, Dz.w_add, Dz.w_sub, Dz.w_neg, Dz.w_lt, Dz.w_le, Dz.w_gt, Dz.w_ge, Dz.w_int, Dz.w_intb, Dz.w_abs, Dz.w_max, Dz.w_min, Dz.w_lenL, Dz.w_lenT, Dz.w_lenR, Dz.wp_pur, Dz.startE, Dz.w_dtup, Dz.w_dlst, Dz.asDs_nil, Dz.asDs_cons, Dz.w_some, Dz.w_kTup, Dz.w_kLst, Dz.w_addL, Dz.w_addT, Dz.w_sl, Dz.w_oNone, Dz.w_oSome, Dz.w_asI, Dz.w_slL, Dz.w_slT, Dz.w_zp, Dz.w_itZL, Dz.w_itZT, Dz.w_rg3, Dz.w_par, Dz.w_asg, Dz.w_asD, Dz.w_fld, Dz.w_sfd, Dz.w_mk, Dz.w_pro, Dz.w_isI, Dz.w_met, Dz.w_ncb, Dz.w_tupL, Dz.w_tupT, Dz.w_listL, Dz.w_listT, Dz.w_sorted, Dz.w_minI, Dz.w_itA, Dz.w_itAt, Dz.w_itAs, Dz.w_itAz, Dz.w_inT, Dz.w_inL, Dz.w_niT, Dz.w_inD, Dz.w_eqS, Dz.w_neS, Dz.w_eqI, Dz.w_neI, Dz.w_eqB, Dz.w_neB, Dz.w_eqL, Dz.w_neL, Dz.w_eqT, Dz.w_neT, Dz.dunNe_str, Dz.dunNe_bl, Dz.dunNe_int, Dz.dunNe_lst, Dz.dunNe_tup, Dz.dunNe_non, Dz.dunEq_str, Dz.dunEq_bl, Dz.dunEq_int, Dz.dunEq_lst, Dz.dunEq_tup, Dz.dunEq_non, Dz.dunIn_ins, Dz.tBoolX_ins, Dz.w_notB, Dz.w_isB, Dz.wp_bnd, List.map_cons, List.map_nil, List.length_cons, List.length_nil, List.replicate, List.cons_append, List.nil_append, List.append_nil, List.getElem?_cons_zero, List.getElem?_cons_succ, List.set_cons_zero, List.set_cons_succ, Nat.reduceAdd, Nat.reduceSub, Nat.zero_add, Nat.sub_zero, Bool.not_true, Bool.not_false, if_true, if_false, Bool.false_eq_true, reduceIte, decide_eq_true_eq, Option.map_some, Nat.reduceLeDiff]))
    by_cases hz : per % n = 0
    · rw [hz] at z ⊢
      rw [if_pos (by rfl), has_period_eq h1 h2 hl]
      (try (simp only [Dz.wp_noE, Dz.noE_pur, Dz.w_var, Dz.w_c, Dz.w_op, Dz.w_ix, Dz.w_un, Dz.w_test, Dz.w_asB, Dz.w_not, Dz.w_and, Dz.w_or, Dz.w_if, Dz.w_sif, Dz.w_seq, Dz.after_nx, Dz.after_rt, Dz.w_next, Dz.w_ret, Dz.w_set, Dz.w_drop, Dz.w_put, Dz.w_nil, Dz.w_cons, Dz.w_cb, Dz.w_call, Dz.w_tup, Dz.w_lst, Dz.w_cell, Dz.w_for, Dz.w_of, Dz.w_rg, Dz.w_new, Dz.w_newC, Dz.w_lc, Dz.w_join, Dz.w_isS, Dz.w_chain, Dz.w_eand, Dz.w_eor, Dz.w_enot, Dz.w_ltS, Dz.w_leS, Dz.w_is, Dz.w_isnot, Dz.w_inS, Dz.w_rpr, Dz.w_itS, Dz.w_itL, Dz.w_itLs, Dz.w_itT, Dz.w_add, Dz.w_sub, Dz.w_neg, Dz.w_lt, Dz.w_le, Dz.w_gt, Dz.w_ge, Dz.w_int, Dz.w_intb, Dz.w_abs, Dz.w_max, Dz.w_min, Dz.w_lenL, Dz.w_lenT, Dz.w_lenR, Dz.wp_pur, Dz.startE, Dz.w_dtup, Dz.w_dlst, Dz.asDs_nil, Dz.asDs_cons, Dz.w_some, Dz.w_kTup, Dz.w_kLst, Dz.w_addL, Dz.w_addT, Dz.w_sl, Dz.w_oNone, Dz.w_oSome, Dz.w_asI, Dz.w_slL, Dz.w_slT, Dz.w_zp, Dz.w_itZL, Dz.w_itZT, Dz.w_rg3, Dz.w_par, Dz.w_asg, Dz.w_asD, Dz.w_fld, Dz.w_sfd, Dz.w_mk, Dz.w_pro, Dz.w_isI, Dz.w_met, Dz.w_ncb, Dz.w_tupL, Dz.w_tupT, Dz.w_listL, Dz.w_listT, Dz.w_sorted, Dz.w_minI, Dz.w_itA, Dz.w_itAt, Dz.w_itAs, Dz.w_itAz, Dz.w_inT, Dz.w_inL, Dz.w_niT, Dz.w_inD, Dz.w_eqS, Dz.w_neS, Dz.w_eqI, Dz.w_neI, Dz.w_eqB, Dz.w_neB, Dz.w_eqL, Dz.w_neL, Dz.w_eqT, Dz.w_neT, Dz.dunNe_str, Dz.dunNe_bl, Dz.dunNe_int, Dz.dunNe_lst, Dz.dunNe_tup, Dz.dunNe_non, Dz.dunEq_str, Dz.dunEq_bl, Dz.dunEq_int, Dz.dunEq_lst, Dz.dunEq_tup, Dz.dunEq_non, Dz.dunIn_ins, Dz.tBoolX_ins, Dz.w_notB, Dz.w_isB, Dz.wp_bnd, List.map_cons, List.map_nil, List.length_cons, List.length_nil, List.replicate, List.cons_append, List.nil_append, List.append_nil, List.getElem?_cons_zero, List.getElem?_cons_succ, List.set_cons_zero, List.set_cons_succ, Nat.reduceAdd, Nat.reduceSub, Nat.zero_add, Nat.sub_zero, Bool.not_true, Bool.not_false, if_true, if_false, Bool.false_eq_true, reduceIte, decide_eq_true_eq, Option.map_some, Nat.reduceLeDiff]))
      simpa using z
    · rw [if_neg (by simpa using hz)]
      simpa [hz] using z]
  rw [wp_pur]
  rw [show ((Lim.upto 1 per.toNat).filter fun q => decide (per % q = 0) && hasPer l per q) = lpers l per from rfl]
  rw [w_minL (lper_spec h1).1]
  exact z
theorem least_first_eq {few l : List Int} {fst per : Int} (h0 : 0 ≤ fst) (h1 : fst ≤ 2000) (h2 : 1 ≤ per) (hf : few.length ≤ 100000) (hl : l.length ≤ 100000) :
    f_least_first [.d (.tup (few.map D.int)), .d (.int fst), .d (.int per), .d (.tup (l.map D.int))] = pur (.d (.int (lfirst few fst per l))) := fn_by fun S Q z => by
  unfold b_least_first
  (try (simp only [Dz.wp_noE, Dz.noE_pur, Dz.w_var, Dz.w_c, Dz.w_op, Dz.w_ix, Dz.w_un, Dz.w_test, Dz.w_asB, Dz.w_not, Dz.w_and, Dz.w_or, Dz.w_if, Dz.w_sif, Dz.w_seq, Dz.after_nx, Dz.after_rt, Dz.w_next, Dz.w_ret, Dz.w_set, Dz.w_drop, Dz.w_put, Dz.w_nil, Dz.w_cons, Dz.w_cb, Dz.w_call, Dz.w_tup, Dz.w_lst, Dz.w_cell, Dz.w_for, Dz.w_of, Dz.w_rg, Dz.w_new, Dz.w_newC, Dz.w_lc, Dz.w_join, Dz.w_isS, Dz.w_chain, Dz.w_eand, Dz.w_eor, Dz.w_enot, Dz.w_ltS, Dz.w_leS, Dz.w_is, Dz.w_isnot, Dz.w_inS, Dz.w_rpr, Dz.w_itS, Dz.w_itL, Dz.w_itLs, Dz.w_itT, Dz.w_add, Dz.w_sub, Dz.w_neg, Dz.w_lt, Dz.w_le, Dz.w_gt, Dz.w_ge, Dz.w_int, Dz.w_intb, Dz.w_abs, Dz.w_max, Dz.w_min, Dz.w_lenL, Dz.w_lenT, Dz.w_lenR, Dz.wp_pur, Dz.startE, Dz.w_dtup, Dz.w_dlst, Dz.asDs_nil, Dz.asDs_cons, Dz.w_some, Dz.w_kTup, Dz.w_kLst, Dz.w_addL, Dz.w_addT, Dz.w_sl, Dz.w_oNone, Dz.w_oSome, Dz.w_asI, Dz.w_slL, Dz.w_slT, Dz.w_zp, Dz.w_itZL, Dz.w_itZT, Dz.w_rg3, Dz.w_par, Dz.w_asg, Dz.w_asD, Dz.w_fld, Dz.w_sfd, Dz.w_mk, Dz.w_pro, Dz.w_isI, Dz.w_met, Dz.w_ncb, Dz.w_tupL, Dz.w_tupT, Dz.w_listL, Dz.w_listT, Dz.w_sorted, Dz.w_minI, Dz.w_itA, Dz.w_itAt, Dz.w_itAs, Dz.w_itAz, Dz.w_inT, Dz.w_inL, Dz.w_niT, Dz.w_inD, Dz.w_eqS, Dz.w_neS, Dz.w_eqI, Dz.w_neI, Dz.w_eqB, Dz.w_neB, Dz.w_eqL, Dz.w_neL, Dz.w_eqT, Dz.w_neT, Dz.dunNe_str, Dz.dunNe_bl, Dz.dunNe_int, Dz.dunNe_lst, Dz.dunNe_tup, Dz.dunNe_non, Dz.dunEq_str, Dz.dunEq_bl, Dz.dunEq_int, Dz.dunEq_lst, Dz.dunEq_tup, Dz.dunEq_non, Dz.dunIn_ins, Dz.tBoolX_ins, Dz.w_notB, Dz.w_isB, Dz.wp_bnd, List.map_cons, List.map_nil, List.length_cons, List.length_nil, List.replicate, List.cons_append, List.nil_append, List.append_nil, List.getElem?_cons_zero, List.getElem?_cons_succ, List.set_cons_zero, List.set_cons_succ, Nat.reduceAdd, Nat.reduceSub, Nat.zero_add, Nat.sub_zero, Bool.not_true, Bool.not_false, if_true, if_false, Bool.false_eq_true, reduceIte, decide_eq_true_eq, Option.map_some, Nat.reduceLeDiff]))
  rw [w_dc' (l := few) (by rfl) hf fun n => ⟨rfl, rfl⟩]
  rw [w_dc' (l := l) (by rfl) hl fun n => ⟨rfl, rfl⟩]
  rw [w_itR3 ⟨by omega, by omega⟩, dDown_downs, show (fst - 1 - -1).toNat = fst.toNat by omega]
  obtain ⟨ρ1, e⟩ := forL_find (i := 4) (P := odd few per l) (r := fun n => .d (.int (n + 1))) (s := sIf (eTest (eOp cNeX (eOp cIn2 (eVar 4) (eVar 5)) (eOp cIn2 (eOp opMod (eVar 4) (eVar 2)) (eVar 6)))) (sRet (eOp opAdd (eVar 4) (eC (.int 1)))) sNext) (downs (fst - 1) fst.toNat)
    [some (.d (.tup (few.map D.int))), some (.d (.int fst)), some (.d (.int per)), some (.d (.tup (l.map D.int))), none, some (.d (.dct (ksI few))), some (.d (.dct (ksI l))), none, none] fun n hn ρ' hr => by
      have e : ρ'.set 4 (some (.d (.int n))) = [some (.d (.tup (few.map D.int))), some (.d (.int fst)), some (.d (.int per)), some (.d (.tup (l.map D.int))), some (.d (.int n)), some (.d (.dct (ksI few))), some (.d (.dct (ksI l))), none, none] := by
        obtain ⟨m, rfl | rfl⟩ := hr <;> rfl
      rw [e]
      by_cases ho : odd few per l n = true
      · rw [if_pos ho]
        refine pur_wp fun S Q z => ?_
        (try (simp only [Dz.wp_noE, Dz.noE_pur, Dz.w_var, Dz.w_c, Dz.w_op, Dz.w_ix, Dz.w_un, Dz.w_test, Dz.w_asB, Dz.w_not, Dz.w_and, Dz.w_or, Dz.w_if, Dz.w_sif, Dz.w_seq, Dz.after_nx, Dz.after_rt, Dz.w_next, Dz.w_ret, Dz.w_set, Dz.w_drop, Dz.w_put, Dz.w_nil, Dz.w_cons, Dz.w_cb, Dz.w_call, Dz.w_tup, Dz.w_lst, Dz.w_cell, Dz.w_for, Dz.w_of, Dz.w_rg, Dz.w_new, Dz.w_newC, Dz.w_lc, Dz.w_join, Dz.w_isS, Dz.w_chain, Dz.w_eand, Dz.w_eor, Dz.w_enot, Dz.w_ltS, Dz.w_leS, Dz.w_is, Dz.w_isnot, Dz.w_inS, Dz.w_rpr, Dz.w_itS, Dz.w_itL, Dz.w_itLs, Dz.w_itT, Dz.w_add, Dz.w_sub, Dz.w_neg, Dz.w_lt, Dz.w_le, Dz.w_gt, Dz.w_ge, Dz.w_int, Dz.w_intb, Dz.w_abs, Dz.w_max, Dz.w_min, Dz.w_lenL, Dz.w_lenT, Dz.w_lenR, Dz.wp_pur, Dz.startE, Dz.w_dtup, Dz.w_dlst, Dz.asDs_nil, Dz.asDs_cons, Dz.w_some, Dz.w_kTup, Dz.w_kLst, Dz.w_addL, Dz.w_addT, Dz.w_sl, Dz.w_oNone, Dz.w_oSome, Dz.w_asI, Dz.w_slL, Dz.w_slT, Dz.w_zp, Dz.w_itZL, Dz.w_itZT, Dz.w_rg3, Dz.w_par, Dz.w_asg, Dz.w_asD, Dz.w_fld, Dz.w_sfd, Dz.w_mk, Dz.w_pro, Dz.w_isI, Dz.w_met, Dz.w_ncb, Dz.w_tupL, Dz.w_tupT, Dz.w_listL, Dz.w_listT, Dz.w_sorted, Dz.w_minI, Dz.w_itA, Dz.w_itAt, Dz.w_itAs, Dz.w_itAz, Dz.w_inT, Dz.w_inL, Dz.w_niT, Dz.w_inD, Dz.w_eqS, Dz.w_neS, Dz.w_eqI, Dz.w_neI, Dz.w_eqB, Dz.w_neB, Dz.w_eqL, Dz.w_neL, Dz.w_eqT, Dz.w_neT, Dz.dunNe_str, Dz.dunNe_bl, Dz.dunNe_int, Dz.dunNe_lst, Dz.dunNe_tup, Dz.dunNe_non, Dz.dunEq_str, Dz.dunEq_bl, Dz.dunEq_int, Dz.dunEq_lst, Dz.dunEq_tup, Dz.dunEq_non, Dz.dunIn_ins, Dz.tBoolX_ins, Dz.w_notB, Dz.w_isB, Dz.wp_bnd, List.map_cons, List.map_nil, List.length_cons, List.length_nil, List.replicate, List.cons_append, List.nil_append, List.append_nil, List.getElem?_cons_zero, List.getElem?_cons_succ, List.set_cons_zero, List.set_cons_succ, Nat.reduceAdd, Nat.reduceSub, Nat.zero_add, Nat.sub_zero, Bool.not_true, Bool.not_false, if_true, if_false, Bool.false_eq_true, reduceIte, decide_eq_true_eq, Option.map_some, Nat.reduceLeDiff]))
        rw [w_mod (by omega)]
        (try (simp only [Dz.wp_noE, Dz.noE_pur, Dz.w_var, Dz.w_c, Dz.w_op, Dz.w_ix, Dz.w_un, Dz.w_test, Dz.w_asB, Dz.w_not, Dz.w_and, Dz.w_or, Dz.w_if, Dz.w_sif, Dz.w_seq, Dz.after_nx, Dz.after_rt, Dz.w_next, Dz.w_ret, Dz.w_set, Dz.w_drop, Dz.w_put, Dz.w_nil, Dz.w_cons, Dz.w_cb, Dz.w_call, Dz.w_tup, Dz.w_lst, Dz.w_cell, Dz.w_for, Dz.w_of, Dz.w_rg, Dz.w_new, Dz.w_newC, Dz.w_lc, Dz.w_join, Dz.w_isS, Dz.w_chain, Dz.w_eand, Dz.w_eor, Dz.w_enot, Dz.w_ltS, Dz.w_leS, Dz.w_is, Dz.w_isnot, Dz.w_inS, Dz.w_rpr, Dz.w_itS, Dz.w_itL, Dz.w_itLs, Dz.w_itT, Dz.w_add, Dz.w_sub, Dz.w_neg, Dz.w_lt, Dz.w_le, Dz.w_gt, Dz.w_ge, Dz.w_int, Dz.w_intb, Dz.w_abs, Dz.w_max, Dz.w_min, Dz.w_lenL, Dz.w_lenT, Dz.w_lenR, Dz.wp_pur, Dz.startE, Dz.w_dtup, Dz.w_dlst, Dz.asDs_nil, Dz.asDs_cons, Dz.w_some, Dz.w_kTup, Dz.w_kLst, Dz.w_addL, Dz.w_addT, Dz.w_sl, Dz.w_oNone, Dz.w_oSome, Dz.w_asI, Dz.w_slL, Dz.w_slT, Dz.w_zp, Dz.w_itZL, Dz.w_itZT, Dz.w_rg3, Dz.w_par, Dz.w_asg, Dz.w_asD, Dz.w_fld, Dz.w_sfd, Dz.w_mk, Dz.w_pro, Dz.w_isI, Dz.w_met, Dz.w_ncb, Dz.w_tupL, Dz.w_tupT, Dz.w_listL, Dz.w_listT, Dz.w_sorted, Dz.w_minI, Dz.w_itA, Dz.w_itAt, Dz.w_itAs, Dz.w_itAz, Dz.w_inT, Dz.w_inL, Dz.w_niT, Dz.w_inD, Dz.w_eqS, Dz.w_neS, Dz.w_eqI, Dz.w_neI, Dz.w_eqB, Dz.w_neB, Dz.w_eqL, Dz.w_neL, Dz.w_eqT, Dz.w_neT, Dz.dunNe_str, Dz.dunNe_bl, Dz.dunNe_int, Dz.dunNe_lst, Dz.dunNe_tup, Dz.dunNe_non, Dz.dunEq_str, Dz.dunEq_bl, Dz.dunEq_int, Dz.dunEq_lst, Dz.dunEq_tup, Dz.dunEq_non, Dz.dunIn_ins, Dz.tBoolX_ins, Dz.w_notB, Dz.w_isB, Dz.wp_bnd, List.map_cons, List.map_nil, List.length_cons, List.length_nil, List.replicate, List.cons_append, List.nil_append, List.append_nil, List.getElem?_cons_zero, List.getElem?_cons_succ, List.set_cons_zero, List.set_cons_succ, Nat.reduceAdd, Nat.reduceSub, Nat.zero_add, Nat.sub_zero, Bool.not_true, Bool.not_false, if_true, if_false, Bool.false_eq_true, reduceIte, decide_eq_true_eq, Option.map_some, Nat.reduceLeDiff]))
        rw [hasK_ints, hasK_ints]
        unfold odd at ho
        rw [if_pos (by simpa [bne] using ho)]
        exact z
      · rw [if_neg ho]
        refine pur_wp fun S Q z => ?_
        (try (simp only [Dz.wp_noE, Dz.noE_pur, Dz.w_var, Dz.w_c, Dz.w_op, Dz.w_ix, Dz.w_un, Dz.w_test, Dz.w_asB, Dz.w_not, Dz.w_and, Dz.w_or, Dz.w_if, Dz.w_sif, Dz.w_seq, Dz.after_nx, Dz.after_rt, Dz.w_next, Dz.w_ret, Dz.w_set, Dz.w_drop, Dz.w_put, Dz.w_nil, Dz.w_cons, Dz.w_cb, Dz.w_call, Dz.w_tup, Dz.w_lst, Dz.w_cell, Dz.w_for, Dz.w_of, Dz.w_rg, Dz.w_new, Dz.w_newC, Dz.w_lc, Dz.w_join, Dz.w_isS, Dz.w_chain, Dz.w_eand, Dz.w_eor, Dz.w_enot, Dz.w_ltS, Dz.w_leS, Dz.w_is, Dz.w_isnot, Dz.w_inS, Dz.w_rpr, Dz.w_itS, Dz.w_itL, Dz.w_itLs, Dz.w_itT, Dz.w_add, Dz.w_sub, Dz.w_neg, Dz.w_lt, Dz.w_le, Dz.w_gt, Dz.w_ge, Dz.w_int, Dz.w_intb, Dz.w_abs, Dz.w_max, Dz.w_min, Dz.w_lenL, Dz.w_lenT, Dz.w_lenR, Dz.wp_pur, Dz.startE, Dz.w_dtup, Dz.w_dlst, Dz.asDs_nil, Dz.asDs_cons, Dz.w_some, Dz.w_kTup, Dz.w_kLst, Dz.w_addL, Dz.w_addT, Dz.w_sl, Dz.w_oNone, Dz.w_oSome, Dz.w_asI, Dz.w_slL, Dz.w_slT, Dz.w_zp, Dz.w_itZL, Dz.w_itZT, Dz.w_rg3, Dz.w_par, Dz.w_asg, Dz.w_asD, Dz.w_fld, Dz.w_sfd, Dz.w_mk, Dz.w_pro, Dz.w_isI, Dz.w_met, Dz.w_ncb, Dz.w_tupL, Dz.w_tupT, Dz.w_listL, Dz.w_listT, Dz.w_sorted, Dz.w_minI, Dz.w_itA, Dz.w_itAt, Dz.w_itAs, Dz.w_itAz, Dz.w_inT, Dz.w_inL, Dz.w_niT, Dz.w_inD, Dz.w_eqS, Dz.w_neS, Dz.w_eqI, Dz.w_neI, Dz.w_eqB, Dz.w_neB, Dz.w_eqL, Dz.w_neL, Dz.w_eqT, Dz.w_neT, Dz.dunNe_str, Dz.dunNe_bl, Dz.dunNe_int, Dz.dunNe_lst, Dz.dunNe_tup, Dz.dunNe_non, Dz.dunEq_str, Dz.dunEq_bl, Dz.dunEq_int, Dz.dunEq_lst, Dz.dunEq_tup, Dz.dunEq_non, Dz.dunIn_ins, Dz.tBoolX_ins, Dz.w_notB, Dz.w_isB, Dz.wp_bnd, List.map_cons, List.map_nil, List.length_cons, List.length_nil, List.replicate, List.cons_append, List.nil_append, List.append_nil, List.getElem?_cons_zero, List.getElem?_cons_succ, List.set_cons_zero, List.set_cons_succ, Nat.reduceAdd, Nat.reduceSub, Nat.zero_add, Nat.sub_zero, Bool.not_true, Bool.not_false, if_true, if_false, Bool.false_eq_true, reduceIte, decide_eq_true_eq, Option.map_some, Nat.reduceLeDiff]))
        rw [w_mod (by omega)]
        (try (simp only [Dz.wp_noE, Dz.noE_pur, Dz.w_var, Dz.w_c, Dz.w_op, Dz.w_ix, Dz.w_un, Dz.w_test, Dz.w_asB, Dz.w_not, Dz.w_and, Dz.w_or, Dz.w_if, Dz.w_sif, Dz.w_seq, Dz.after_nx, Dz.after_rt, Dz.w_next, Dz.w_ret, Dz.w_set, Dz.w_drop, Dz.w_put, Dz.w_nil, Dz.w_cons, Dz.w_cb, Dz.w_call, Dz.w_tup, Dz.w_lst, Dz.w_cell, Dz.w_for, Dz.w_of, Dz.w_rg, Dz.w_new, Dz.w_newC, Dz.w_lc, Dz.w_join, Dz.w_isS, Dz.w_chain, Dz.w_eand, Dz.w_eor, Dz.w_enot, Dz.w_ltS, Dz.w_leS, Dz.w_is, Dz.w_isnot, Dz.w_inS, Dz.w_rpr, Dz.w_itS, Dz.w_itL, Dz.w_itLs, Dz.w_itT, Dz.w_add, Dz.w_sub, Dz.w_neg, Dz.w_lt, Dz.w_le, Dz.w_gt, Dz.w_ge, Dz.w_int, Dz.w_intb, Dz.w_abs, Dz.w_max, Dz.w_min, Dz.w_lenL, Dz.w_lenT, Dz.w_lenR, Dz.wp_pur, Dz.startE, Dz.w_dtup, Dz.w_dlst, Dz.asDs_nil, Dz.asDs_cons, Dz.w_some, Dz.w_kTup, Dz.w_kLst, Dz.w_addL, Dz.w_addT, Dz.w_sl, Dz.w_oNone, Dz.w_oSome, Dz.w_asI, Dz.w_slL, Dz.w_slT, Dz.w_zp, Dz.w_itZL, Dz.w_itZT, Dz.w_rg3, Dz.w_par, Dz.w_asg, Dz.w_asD, Dz.w_fld, Dz.w_sfd, Dz.w_mk, Dz.w_pro, Dz.w_isI, Dz.w_met, Dz.w_ncb, Dz.w_tupL, Dz.w_tupT, Dz.w_listL, Dz.w_listT, Dz.w_sorted, Dz.w_minI, Dz.w_itA, Dz.w_itAt, Dz.w_itAs, Dz.w_itAz, Dz.w_inT, Dz.w_inL, Dz.w_niT, Dz.w_inD, Dz.w_eqS, Dz.w_neS, Dz.w_eqI, Dz.w_neI, Dz.w_eqB, Dz.w_neB, Dz.w_eqL, Dz.w_neL, Dz.w_eqT, Dz.w_neT, Dz.dunNe_str, Dz.dunNe_bl, Dz.dunNe_int, Dz.dunNe_lst, Dz.dunNe_tup, Dz.dunNe_non, Dz.dunEq_str, Dz.dunEq_bl, Dz.dunEq_int, Dz.dunEq_lst, Dz.dunEq_tup, Dz.dunEq_non, Dz.dunIn_ins, Dz.tBoolX_ins, Dz.w_notB, Dz.w_isB, Dz.wp_bnd, List.map_cons, List.map_nil, List.length_cons, List.length_nil, List.replicate, List.cons_append, List.nil_append, List.append_nil, List.getElem?_cons_zero, List.getElem?_cons_succ, List.set_cons_zero, List.set_cons_succ, Nat.reduceAdd, Nat.reduceSub, Nat.zero_add, Nat.sub_zero, Bool.not_true, Bool.not_false, if_true, if_false, Bool.false_eq_true, reduceIte, decide_eq_true_eq, Option.map_some, Nat.reduceLeDiff]))
        rw [hasK_ints, hasK_ints]
        unfold odd at ho
        rw [if_neg (by simpa [bne] using ho)]
        exact z
  rw [e]
  unfold lfirst at z
  cases hq : (downs (fst - 1) fst.toNat).find? (odd few per l) with
  | none =>
    rw [hq] at z
    (try (simp only [Dz.wp_noE, Dz.noE_pur, Dz.w_var, Dz.w_c, Dz.w_op, Dz.w_ix, Dz.w_un, Dz.w_test, Dz.w_asB, Dz.w_not, Dz.w_and, Dz.w_or, Dz.w_if, Dz.w_sif, Dz.w_seq, Dz.after_nx, Dz.after_rt, Dz.w_next, Dz.w_ret, Dz.w_set, Dz.w_drop, Dz.w_put, Dz.w_nil, Dz.w_cons, Dz.w_cb, Dz.w_call, Dz.w_tup, Dz.w_lst, Dz.w_cell, Dz.w_for, Dz.w_of, Dz.w_rg, Dz.w_new, Dz.w_newC, Dz.w_lc, Dz.w_join, Dz.w_isS, Dz.w_chain, Dz.w_eand, Dz.w_eor, Dz.w_enot, Dz.w_ltS, Dz.w_leS, Dz.w_is, Dz.w_isnot, Dz.w_inS, Dz.w_rpr, Dz.w_itS, Dz.w_itL, Dz.w_itLs, Dz.w_itT, Dz.w_add, Dz.w_sub, Dz.w_neg, Dz.w_lt, Dz.w_le, Dz.w_gt, Dz.w_ge, Dz.w_int, Dz.w_intb, Dz.w_abs, Dz.w_max, Dz.w_min, Dz.w_lenL, Dz.w_lenT, Dz.w_lenR, Dz.wp_pur, Dz.startE, Dz.w_dtup, Dz.w_dlst, Dz.asDs_nil, Dz.asDs_cons, Dz.w_some, Dz.w_kTup, Dz.w_kLst, Dz.w_addL, Dz.w_addT, Dz.w_sl, Dz.w_oNone, Dz.w_oSome, Dz.w_asI, Dz.w_slL, Dz.w_slT, Dz.w_zp, Dz.w_itZL, Dz.w_itZT, Dz.w_rg3, Dz.w_par, Dz.w_asg, Dz.w_asD, Dz.w_fld, Dz.w_sfd, Dz.w_mk, Dz.w_pro, Dz.w_isI, Dz.w_met, Dz.w_ncb, Dz.w_tupL, Dz.w_tupT, Dz.w_listL, Dz.w_listT, Dz.w_sorted, Dz.w_minI, Dz.w_itA, Dz.w_itAt, Dz.w_itAs, Dz.w_itAz, Dz.w_inT, Dz.w_inL, Dz.w_niT, Dz.w_inD, Dz.w_eqS, Dz.w_neS, Dz.w_eqI, Dz.w_neI, Dz.w_eqB, Dz.w_neB, Dz.w_eqL, Dz.w_neL, Dz.w_eqT, Dz.w_neT, Dz.dunNe_str, Dz.dunNe_bl, Dz.dunNe_int, Dz.dunNe_lst, Dz.dunNe_tup, Dz.dunNe_non, Dz.dunEq_str, Dz.dunEq_bl, Dz.dunEq_int, Dz.dunEq_lst, Dz.dunEq_tup, Dz.dunEq_non, Dz.dunIn_ins, Dz.tBoolX_ins, Dz.w_notB, Dz.w_isB, Dz.wp_bnd, List.map_cons, List.map_nil, List.length_cons, List.length_nil, List.replicate, List.cons_append, List.nil_append, List.append_nil, List.getElem?_cons_zero, List.getElem?_cons_succ, List.set_cons_zero, List.set_cons_succ, Nat.reduceAdd, Nat.reduceSub, Nat.zero_add, Nat.sub_zero, Bool.not_true, Bool.not_false, if_true, if_false, Bool.false_eq_true, reduceIte, decide_eq_true_eq, Option.map_some, Nat.reduceLeDiff]))
    exact z
  | some n =>
    rw [hq] at z
    (try (simp only [Dz.wp_noE, Dz.noE_pur, Dz.w_var, Dz.w_c, Dz.w_op, Dz.w_ix, Dz.w_un, Dz.w_test, Dz.w_asB, Dz.w_not, Dz.w_and, Dz.w_or, Dz.w_if, Dz.w_sif, Dz.w_seq, Dz.after_nx, Dz.after_rt, Dz.w_next, Dz.w_ret, Dz.w_set, Dz.w_drop, Dz.w_put, Dz.w_nil, Dz.w_cons, Dz.w_cb, Dz.w_call, Dz.w_tup, Dz.w_lst, Dz.w_cell, Dz.w_for, Dz.w_of, Dz.w_rg, Dz.w_new, Dz.w_newC, Dz.w_lc, Dz.w_join, Dz.w_isS, Dz.w_chain, Dz.w_eand, Dz.w_eor, Dz.w_enot, Dz.w_ltS, Dz.w_leS, Dz.w_is, Dz.w_isnot, Dz.w_inS, Dz.w_rpr, Dz.w_itS, Dz.w_itL, Dz.w_itLs, Dz.w_itT, Dz.w_add, Dz.w_sub, Dz.w_neg, Dz.w_lt, Dz.w_le, Dz.w_gt, Dz.w_ge, Dz.w_int, Dz.w_intb, Dz.w_abs, Dz.w_max, Dz.w_min, Dz.w_lenL, Dz.w_lenT, Dz.w_lenR, Dz.wp_pur, Dz.startE, Dz.w_dtup, Dz.w_dlst, Dz.asDs_nil, Dz.asDs_cons, Dz.w_some, Dz.w_kTup, Dz.w_kLst, Dz.w_addL, Dz.w_addT, Dz.w_sl, Dz.w_oNone, Dz.w_oSome, Dz.w_asI, Dz.w_slL, Dz.w_slT, Dz.w_zp, Dz.w_itZL, Dz.w_itZT, Dz.w_rg3, Dz.w_par, Dz.w_asg, Dz.w_asD, Dz.w_fld, Dz.w_sfd, Dz.w_mk, Dz.w_pro, Dz.w_isI, Dz.w_met, Dz.w_ncb, Dz.w_tupL, Dz.w_tupT, Dz.w_listL, Dz.w_listT, Dz.w_sorted, Dz.w_minI, Dz.w_itA, Dz.w_itAt, Dz.w_itAs, Dz.w_itAz, Dz.w_inT, Dz.w_inL, Dz.w_niT, Dz.w_inD, Dz.w_eqS, Dz.w_neS, Dz.w_eqI, Dz.w_neI, Dz.w_eqB, Dz.w_neB, Dz.w_eqL, Dz.w_neL, Dz.w_eqT, Dz.w_neT, Dz.dunNe_str, Dz.dunNe_bl, Dz.dunNe_int, Dz.dunNe_lst, Dz.dunNe_tup, Dz.dunNe_non, Dz.dunEq_str, Dz.dunEq_bl, Dz.dunEq_int, Dz.dunEq_lst, Dz.dunEq_tup, Dz.dunEq_non, Dz.dunIn_ins, Dz.tBoolX_ins, Dz.w_notB, Dz.w_isB, Dz.wp_bnd, List.map_cons, List.map_nil, List.length_cons, List.length_nil, List.replicate, List.cons_append, List.nil_append, List.append_nil, List.getElem?_cons_zero, List.getElem?_cons_succ, List.set_cons_zero, List.set_cons_succ, Nat.reduceAdd, Nat.reduceSub, Nat.zero_add, Nat.sub_zero, Bool.not_true, Bool.not_false, if_true, if_false, Bool.false_eq_true, reduceIte, decide_eq_true_eq, Option.map_some, Nat.reduceLeDiff]))
    exact z
theorem begins_eq {l : List Int} {f per : Int} (h : 1 ≤ per) (hl : l.length ≤ 100000) : f_begins_of [.d (.int f), .d (.int per), .d (.tup (l.map D.int))] = pur (.d (.tup ((srt (l.map fun x => f + (x - f) % per)).map D.int))) := fn_by fun S Q z => by
  unfold b_begins_of
  (try (simp only [Dz.wp_noE, Dz.noE_pur, Dz.w_var, Dz.w_c, Dz.w_op, Dz.w_ix, Dz.w_un, Dz.w_test, Dz.w_asB, Dz.w_not, Dz.w_and, Dz.w_or, Dz.w_if, Dz.w_sif, Dz.w_seq, Dz.after_nx, Dz.after_rt, Dz.w_next, Dz.w_ret, Dz.w_set, Dz.w_drop, Dz.w_put, Dz.w_nil, Dz.w_cons, Dz.w_cb, Dz.w_call, Dz.w_tup, Dz.w_lst, Dz.w_cell, Dz.w_for, Dz.w_of, Dz.w_rg, Dz.w_new, Dz.w_newC, Dz.w_lc, Dz.w_join, Dz.w_isS, Dz.w_chain, Dz.w_eand, Dz.w_eor, Dz.w_enot, Dz.w_ltS, Dz.w_leS, Dz.w_is, Dz.w_isnot, Dz.w_inS, Dz.w_rpr, Dz.w_itS, Dz.w_itL, Dz.w_itLs, Dz.w_itT, Dz.w_add, Dz.w_sub, Dz.w_neg, Dz.w_lt, Dz.w_le, Dz.w_gt, Dz.w_ge, Dz.w_int, Dz.w_intb, Dz.w_abs, Dz.w_max, Dz.w_min, Dz.w_lenL, Dz.w_lenT, Dz.w_lenR, Dz.wp_pur, Dz.startE, Dz.w_dtup, Dz.w_dlst, Dz.asDs_nil, Dz.asDs_cons, Dz.w_some, Dz.w_kTup, Dz.w_kLst, Dz.w_addL, Dz.w_addT, Dz.w_sl, Dz.w_oNone, Dz.w_oSome, Dz.w_asI, Dz.w_slL, Dz.w_slT, Dz.w_zp, Dz.w_itZL, Dz.w_itZT, Dz.w_rg3, Dz.w_par, Dz.w_asg, Dz.w_asD, Dz.w_fld, Dz.w_sfd, Dz.w_mk, Dz.w_pro, Dz.w_isI, Dz.w_met, Dz.w_ncb, Dz.w_tupL, Dz.w_tupT, Dz.w_listL, Dz.w_listT, Dz.w_sorted, Dz.w_minI, Dz.w_itA, Dz.w_itAt, Dz.w_itAs, Dz.w_itAz, Dz.w_inT, Dz.w_inL, Dz.w_niT, Dz.w_inD, Dz.w_eqS, Dz.w_neS, Dz.w_eqI, Dz.w_neI, Dz.w_eqB, Dz.w_neB, Dz.w_eqL, Dz.w_neL, Dz.w_eqT, Dz.w_neT, Dz.dunNe_str, Dz.dunNe_bl, Dz.dunNe_int, Dz.dunNe_lst, Dz.dunNe_tup, Dz.dunNe_non, Dz.dunEq_str, Dz.dunEq_bl, Dz.dunEq_int, Dz.dunEq_lst, Dz.dunEq_tup, Dz.dunEq_non, Dz.dunIn_ins, Dz.tBoolX_ins, Dz.w_notB, Dz.w_isB, Dz.wp_bnd, List.map_cons, List.map_nil, List.length_cons, List.length_nil, List.replicate, List.cons_append, List.nil_append, List.append_nil, List.getElem?_cons_zero, List.getElem?_cons_succ, List.set_cons_zero, List.set_cons_succ, Nat.reduceAdd, Nat.reduceSub, Nat.zero_add, Nat.sub_zero, Bool.not_true, Bool.not_false, if_true, if_false, Bool.false_eq_true, reduceIte, decide_eq_true_eq, Option.map_some, Nat.reduceLeDiff]))
  rw [if_pos (by rw [List.length_map]; exact hl)]
  rw [lcL_all (v := fun x => .int (f + (x - f) % per)) l fun n hn => by
    refine pur_wp fun S Q z => ?_
    show wp (eOp opAdd (eVar 0) (eOp opMod (eOp opSub (eVar 3) (eVar 0)) (eVar 1)) [some (.d (.int f)), some (.d (.int per)), some (.d (.tup (l.map D.int))), some (.d (.int n))]) S Q
    (try (simp only [Dz.wp_noE, Dz.noE_pur, Dz.w_var, Dz.w_c, Dz.w_op, Dz.w_ix, Dz.w_un, Dz.w_test, Dz.w_asB, Dz.w_not, Dz.w_and, Dz.w_or, Dz.w_if, Dz.w_sif, Dz.w_seq, Dz.after_nx, Dz.after_rt, Dz.w_next, Dz.w_ret, Dz.w_set, Dz.w_drop, Dz.w_put, Dz.w_nil, Dz.w_cons, Dz.w_cb, Dz.w_call, Dz.w_tup, Dz.w_lst, Dz.w_cell, Dz.w_for, Dz.w_of, Dz.w_rg, Dz.w_new, Dz.w_newC, Dz.w_lc, Dz.w_join, Dz.w_isS, Dz.w_chain, Dz.w_eand, Dz.w_eor, Dz.w_enot, Dz.w_ltS, Dz.w_leS, Dz.w_is, Dz.w_isnot, Dz.w_inS, Dz.w_rpr, Dz.w_itS, Dz.w_itL, Dz.w_itLs, Dz.w_itT, Dz.w_add, Dz.w_sub, Dz.w_neg, Dz.w_lt, Dz.w_le, Dz.w_gt, Dz.w_ge, Dz.w_int, Dz.w_intb, Dz.w_abs, Dz.w_max, Dz.w_min, Dz.w_lenL, Dz.w_lenT, Dz.w_lenR, Dz.wp_pur, Dz.startE, Dz.w_dtup, Dz.w_dlst, Dz.asDs_nil, Dz.asDs_cons, Dz.w_some, Dz.w_kTup, Dz.w_kLst, Dz.w_addL, Dz.w_addT, Dz.w_sl, Dz.w_oNone, Dz.w_oSome, Dz.w_asI, Dz.w_slL, Dz.w_slT, Dz.w_zp, Dz.w_itZL, Dz.w_itZT, Dz.w_rg3, Dz.w_par, Dz.w_asg, Dz.w_asD, Dz.w_fld, Dz.w_sfd, Dz.w_mk, Dz.w_pro, Dz.w_isI, Dz.w_met, Dz.w_ncb, Dz.w_tupL, Dz.w_tupT, Dz.w_listL, Dz.w_listT, Dz.w_sorted, Dz.w_minI, Dz.w_itA, Dz.w_itAt, Dz.w_itAs, Dz.w_itAz, Dz.w_inT, Dz.w_inL, Dz.w_niT, Dz.w_inD, Dz.w_eqS, Dz.w_neS, Dz.w_eqI, Dz.w_neI, Dz.w_eqB, Dz.w_neB, Dz.w_eqL, Dz.w_neL, Dz.w_eqT, Dz.w_neT, Dz.dunNe_str, Dz.dunNe_bl, Dz.dunNe_int, Dz.dunNe_lst, Dz.dunNe_tup, Dz.dunNe_non, Dz.dunEq_str, Dz.dunEq_bl, Dz.dunEq_int, Dz.dunEq_lst, Dz.dunEq_tup, Dz.dunEq_non, Dz.dunIn_ins, Dz.tBoolX_ins, Dz.w_notB, Dz.w_isB, Dz.wp_bnd, List.map_cons, List.map_nil, List.length_cons, List.length_nil, List.replicate, List.cons_append, List.nil_append, List.append_nil, List.getElem?_cons_zero, List.getElem?_cons_succ, List.set_cons_zero, List.set_cons_succ, Nat.reduceAdd, Nat.reduceSub, Nat.zero_add, Nat.sub_zero, Bool.not_true, Bool.not_false, if_true, if_false, Bool.false_eq_true, reduceIte, decide_eq_true_eq, Option.map_some, Nat.reduceLeDiff]))
    rw [w_mod (by omega)]
    (try (simp only [Dz.wp_noE, Dz.noE_pur, Dz.w_var, Dz.w_c, Dz.w_op, Dz.w_ix, Dz.w_un, Dz.w_test, Dz.w_asB, Dz.w_not, Dz.w_and, Dz.w_or, Dz.w_if, Dz.w_sif, Dz.w_seq, Dz.after_nx, Dz.after_rt, Dz.w_next, Dz.w_ret, Dz.w_set, Dz.w_drop, Dz.w_put, Dz.w_nil, Dz.w_cons, Dz.w_cb, Dz.w_call, Dz.w_tup, Dz.w_lst, Dz.w_cell, Dz.w_for, Dz.w_of, Dz.w_rg, Dz.w_new, Dz.w_newC, Dz.w_lc, Dz.w_join, Dz.w_isS, Dz.w_chain, Dz.w_eand, Dz.w_eor, Dz.w_enot, Dz.w_ltS, Dz.w_leS, Dz.w_is, Dz.w_isnot, Dz.w_inS, Dz.w_rpr, Dz.w_itS, Dz.w_itL, Dz.w_itLs, Dz.w_itT, Dz.w_add, Dz.w_sub, Dz.w_neg, Dz.w_lt, Dz.w_le, Dz.w_gt, Dz.w_ge, Dz.w_int, Dz.w_intb, Dz.w_abs, Dz.w_max, Dz.w_min, Dz.w_lenL, Dz.w_lenT, Dz.w_lenR, Dz.wp_pur, Dz.startE, Dz.w_dtup, Dz.w_dlst, Dz.asDs_nil, Dz.asDs_cons, Dz.w_some, Dz.w_kTup, Dz.w_kLst, Dz.w_addL, Dz.w_addT, Dz.w_sl, Dz.w_oNone, Dz.w_oSome, Dz.w_asI, Dz.w_slL, Dz.w_slT, Dz.w_zp, Dz.w_itZL, Dz.w_itZT, Dz.w_rg3, Dz.w_par, Dz.w_asg, Dz.w_asD, Dz.w_fld, Dz.w_sfd, Dz.w_mk, Dz.w_pro, Dz.w_isI, Dz.w_met, Dz.w_ncb, Dz.w_tupL, Dz.w_tupT, Dz.w_listL, Dz.w_listT, Dz.w_sorted, Dz.w_minI, Dz.w_itA, Dz.w_itAt, Dz.w_itAs, Dz.w_itAz, Dz.w_inT, Dz.w_inL, Dz.w_niT, Dz.w_inD, Dz.w_eqS, Dz.w_neS, Dz.w_eqI, Dz.w_neI, Dz.w_eqB, Dz.w_neB, Dz.w_eqL, Dz.w_neL, Dz.w_eqT, Dz.w_neT, Dz.dunNe_str, Dz.dunNe_bl, Dz.dunNe_int, Dz.dunNe_lst, Dz.dunNe_tup, Dz.dunNe_non, Dz.dunEq_str, Dz.dunEq_bl, Dz.dunEq_int, Dz.dunEq_lst, Dz.dunEq_tup, Dz.dunEq_non, Dz.dunIn_ins, Dz.tBoolX_ins, Dz.w_notB, Dz.w_isB, Dz.wp_bnd, List.map_cons, List.map_nil, List.length_cons, List.length_nil, List.replicate, List.cons_append, List.nil_append, List.append_nil, List.getElem?_cons_zero, List.getElem?_cons_succ, List.set_cons_zero, List.set_cons_succ, Nat.reduceAdd, Nat.reduceSub, Nat.zero_add, Nat.sub_zero, Bool.not_true, Bool.not_false, if_true, if_false, Bool.false_eq_true, reduceIte, decide_eq_true_eq, Option.map_some, Nat.reduceLeDiff]))
    exact z]
  rw [wp_pur, show (l.map fun x => D.int (f + (x - f) % per)) = (l.map fun x => f + (x - f) % per).map D.int by rw [List.map_map]; rfl]
  (try (simp only [Dz.wp_noE, Dz.noE_pur, Dz.w_var, Dz.w_c, Dz.w_op, Dz.w_ix, Dz.w_un, Dz.w_test, Dz.w_asB, Dz.w_not, Dz.w_and, Dz.w_or, Dz.w_if, Dz.w_sif, Dz.w_seq, Dz.after_nx, Dz.after_rt, Dz.w_next, Dz.w_ret, Dz.w_set, Dz.w_drop, Dz.w_put, Dz.w_nil, Dz.w_cons, Dz.w_cb, Dz.w_call, Dz.w_tup, Dz.w_lst, Dz.w_cell, Dz.w_for, Dz.w_of, Dz.w_rg, Dz.w_new, Dz.w_newC, Dz.w_lc, Dz.w_join, Dz.w_isS, Dz.w_chain, Dz.w_eand, Dz.w_eor, Dz.w_enot, Dz.w_ltS, Dz.w_leS, Dz.w_is, Dz.w_isnot, Dz.w_inS, Dz.w_rpr, Dz.w_itS, Dz.w_itL, Dz.w_itLs, Dz.w_itT, Dz.w_add, Dz.w_sub, Dz.w_neg, Dz.w_lt, Dz.w_le, Dz.w_gt, Dz.w_ge, Dz.w_int, Dz.w_intb, Dz.w_abs, Dz.w_max, Dz.w_min, Dz.w_lenL, Dz.w_lenT, Dz.w_lenR, Dz.wp_pur, Dz.startE, Dz.w_dtup, Dz.w_dlst, Dz.asDs_nil, Dz.asDs_cons, Dz.w_some, Dz.w_kTup, Dz.w_kLst, Dz.w_addL, Dz.w_addT, Dz.w_sl, Dz.w_oNone, Dz.w_oSome, Dz.w_asI, Dz.w_slL, Dz.w_slT, Dz.w_zp, Dz.w_itZL, Dz.w_itZT, Dz.w_rg3, Dz.w_par, Dz.w_asg, Dz.w_asD, Dz.w_fld, Dz.w_sfd, Dz.w_mk, Dz.w_pro, Dz.w_isI, Dz.w_met, Dz.w_ncb, Dz.w_tupL, Dz.w_tupT, Dz.w_listL, Dz.w_listT, Dz.w_sorted, Dz.w_minI, Dz.w_itA, Dz.w_itAt, Dz.w_itAs, Dz.w_itAz, Dz.w_inT, Dz.w_inL, Dz.w_niT, Dz.w_inD, Dz.w_eqS, Dz.w_neS, Dz.w_eqI, Dz.w_neI, Dz.w_eqB, Dz.w_neB, Dz.w_eqL, Dz.w_neL, Dz.w_eqT, Dz.w_neT, Dz.dunNe_str, Dz.dunNe_bl, Dz.dunNe_int, Dz.dunNe_lst, Dz.dunNe_tup, Dz.dunNe_non, Dz.dunEq_str, Dz.dunEq_bl, Dz.dunEq_int, Dz.dunEq_lst, Dz.dunEq_tup, Dz.dunEq_non, Dz.dunIn_ins, Dz.tBoolX_ins, Dz.w_notB, Dz.w_isB, Dz.wp_bnd, List.map_cons, List.map_nil, List.length_cons, List.length_nil, List.replicate, List.cons_append, List.nil_append, List.append_nil, List.getElem?_cons_zero, List.getElem?_cons_succ, List.set_cons_zero, List.set_cons_succ, Nat.reduceAdd, Nat.reduceSub, Nat.zero_add, Nat.sub_zero, Bool.not_true, Bool.not_false, if_true, if_false, Bool.false_eq_true, reduceIte, decide_eq_true_eq, Option.map_some, Nat.reduceLeDiff]))
  exact z
end K03

namespace K03
open PySem PySem.Spec PyProof.Rows L2 Dz


open Lim
/-! ### the class -/
def insF (p : Pt) : List (Str × D) := [("own_period", .int p.per), ("own_rests", .tup (p.rst.map D.int)), ("own_first", .int p.fst), ("own_few", .tup (p.few.map D.int)), ("own_begins", .tup ((srt (p.rst.map fun x => p.fst + (x - p.fst) % p.per)).map D.int))]
def insL (p : Pt) : D := .ins "Limits" (insF p)
theorem asc_lenA {t : Int} : ∀ (l : List Int) (a : Int), l.Pairwise (· < ·) → (∀ x ∈ l, a ≤ x ∧ x < t) → l.length ≤ (t - a).toNat
  | [], a, _, _ => Nat.zero_le _
  | x :: l, a, h, hb => by
    obtain ⟨h1, h2⟩ := List.pairwise_cons.mp h
    have hx := hb x List.mem_cons_self
    have := asc_lenA l (x + 1) h2 fun y hy => ⟨by have := h1 y hy; omega, (hb y (List.mem_cons_of_mem _ hy)).2⟩
    rw [List.length_cons]
    omega
theorem asc_len {l : List Int} {t : Int} (h : l.Pairwise (· < ·)) (hb : ∀ x ∈ l, 0 ≤ x ∧ x < t) (ht : t ≤ 2000) : l.length ≤ 2000 := by
  have := asc_lenA l 0 h hb
  omega
theorem Ok.lf {p : Pt} (k : Ok p) : p.few.length ≤ 2000 := asc_len k.fa k.fb k.f1
theorem Ok.lr {p : Pt} (k : Ok p) : p.rst.length ≤ 2000 := asc_len k.ra k.rb k.p1
theorem putFD_lt {f : Str} {d : D} {n : Nat} : ∀ {fs : List (Str × D)}, fs.length < n → (putFD f d fs).length < n + 1
  | [], h => by
    show 1 < n + 1
    simp at h
    omega
  | (g, x) :: r, h => by
    unfold putFD
    split
    · simp only [List.length_cons] at h ⊢; omega
    · simp only [List.length_cons] at h ⊢
      have := putFD_lt (f := f) (d := d) (n := n - 1) (fs := r) (by omega)
      omega
theorem make_eq {p : Pt} (k : Ok p) : mkI "Limits" f_Limits___init__ [.d (.tup (p.few.map D.int)), .d (.int p.fst), .d (.int p.per), .d (.tup (p.rst.map D.int))] = pur (.d (insL (canon p))) := pur_wp fun S Q q => by
  have f0 := k.f0; have f1 := k.f1; have p0 := k.p0; have p1 := k.p1
  have lf := Ok.lf k; have lr := Ok.lr k
  have hT : (2000 : Int) + 1 ≤ c_TOP := by decide
  apply wp_mkI
  apply wp_fnN
  unfold b_Limits___init__
  (try (simp only [Dz.wp_noE, Dz.noE_pur, Dz.w_var, Dz.w_c, Dz.w_op, Dz.w_ix, Dz.w_un, Dz.w_test, Dz.w_asB, Dz.w_not, Dz.w_and, Dz.w_or, Dz.w_if, Dz.w_sif, Dz.w_seq, Dz.after_nx, Dz.after_rt, Dz.w_next, Dz.w_ret, Dz.w_set, Dz.w_drop, Dz.w_put, Dz.w_nil, Dz.w_cons, Dz.w_cb, Dz.w_call, Dz.w_tup, Dz.w_lst, Dz.w_cell, Dz.w_for, Dz.w_of, Dz.w_rg, Dz.w_new, Dz.w_newC, Dz.w_lc, Dz.w_join, Dz.w_isS, Dz.w_chain, Dz.w_eand, Dz.w_eor, Dz.w_enot, Dz.w_ltS, Dz.w_leS, Dz.w_is, Dz.w_isnot, Dz.w_inS, Dz.w_rpr, Dz.w_itS, Dz.w_itL, Dz.w_itLs, Dz.w_itT, Dz.w_add, Dz.w_sub, Dz.w_neg, Dz.w_lt, Dz.w_le, Dz.w_gt, Dz.w_ge, Dz.w_int, Dz.w_intb, Dz.w_abs, Dz.w_max, Dz.w_min, Dz.w_lenL, Dz.w_lenT, Dz.w_lenR, Dz.wp_pur, Dz.startE, Dz.w_dtup, Dz.w_dlst, Dz.asDs_nil, Dz.asDs_cons, Dz.w_some, Dz.w_kTup, Dz.w_kLst, Dz.w_addL, Dz.w_addT, Dz.w_sl, Dz.w_oNone, Dz.w_oSome, Dz.w_asI, Dz.w_slL, Dz.w_slT, Dz.w_zp, Dz.w_itZL, Dz.w_itZT, Dz.w_rg3, Dz.w_par, Dz.w_asg, Dz.w_asD, Dz.w_fld, Dz.w_sfd, Dz.w_mk, Dz.w_pro, Dz.w_isI, Dz.w_met, Dz.w_ncb, Dz.w_tupL, Dz.w_tupT, Dz.w_listL, Dz.w_listT, Dz.w_sorted, Dz.w_minI, Dz.w_itA, Dz.w_itAt, Dz.w_itAs, Dz.w_itAz, Dz.w_inT, Dz.w_inL, Dz.w_niT, Dz.w_inD, Dz.w_eqS, Dz.w_neS, Dz.w_eqI, Dz.w_neI, Dz.w_eqB, Dz.w_neB, Dz.w_eqL, Dz.w_neL, Dz.w_eqT, Dz.w_neT, Dz.dunNe_str, Dz.dunNe_bl, Dz.dunNe_int, Dz.dunNe_lst, Dz.dunNe_tup, Dz.dunNe_non, Dz.dunEq_str, Dz.dunEq_bl, Dz.dunEq_int, Dz.dunEq_lst, Dz.dunEq_tup, Dz.dunEq_non, Dz.dunIn_ins, Dz.tBoolX_ins, Dz.w_notB, Dz.w_isB, Dz.wp_bnd, List.map_cons, List.map_nil, List.length_cons, List.length_nil, List.replicate, List.cons_append, List.nil_append, List.append_nil, List.getElem?_cons_zero, List.getElem?_cons_succ, List.set_cons_zero, List.set_cons_succ, Nat.reduceAdd, Nat.reduceSub, Nat.zero_add, Nat.sub_zero, Bool.not_true, Bool.not_false, if_true, if_false, Bool.false_eq_true, reduceIte, decide_eq_true_eq, Option.map_some, Nat.reduceLeDiff]))
  rw [is_below_i (i := p.fst) (t := c_MAX_PERIOD + 1) f0 (by show p.fst < 2000 + 1; omega) hT]
  (try (simp only [Dz.wp_noE, Dz.noE_pur, Dz.w_var, Dz.w_c, Dz.w_op, Dz.w_ix, Dz.w_un, Dz.w_test, Dz.w_asB, Dz.w_not, Dz.w_and, Dz.w_or, Dz.w_if, Dz.w_sif, Dz.w_seq, Dz.after_nx, Dz.after_rt, Dz.w_next, Dz.w_ret, Dz.w_set, Dz.w_drop, Dz.w_put, Dz.w_nil, Dz.w_cons, Dz.w_cb, Dz.w_call, Dz.w_tup, Dz.w_lst, Dz.w_cell, Dz.w_for, Dz.w_of, Dz.w_rg, Dz.w_new, Dz.w_newC, Dz.w_lc, Dz.w_join, Dz.w_isS, Dz.w_chain, Dz.w_eand, Dz.w_eor, Dz.w_enot, Dz.w_ltS, Dz.w_leS, Dz.w_is, Dz.w_isnot, Dz.w_inS, Dz.w_rpr, Dz.w_itS, Dz.w_itL, Dz.w_itLs, Dz.w_itT, Dz.w_add, Dz.w_sub, Dz.w_neg, Dz.w_lt, Dz.w_le, Dz.w_gt, Dz.w_ge, Dz.w_int, Dz.w_intb, Dz.w_abs, Dz.w_max, Dz.w_min, Dz.w_lenL, Dz.w_lenT, Dz.w_lenR, Dz.wp_pur, Dz.startE, Dz.w_dtup, Dz.w_dlst, Dz.asDs_nil, Dz.asDs_cons, Dz.w_some, Dz.w_kTup, Dz.w_kLst, Dz.w_addL, Dz.w_addT, Dz.w_sl, Dz.w_oNone, Dz.w_oSome, Dz.w_asI, Dz.w_slL, Dz.w_slT, Dz.w_zp, Dz.w_itZL, Dz.w_itZT, Dz.w_rg3, Dz.w_par, Dz.w_asg, Dz.w_asD, Dz.w_fld, Dz.w_sfd, Dz.w_mk, Dz.w_pro, Dz.w_isI, Dz.w_met, Dz.w_ncb, Dz.w_tupL, Dz.w_tupT, Dz.w_listL, Dz.w_listT, Dz.w_sorted, Dz.w_minI, Dz.w_itA, Dz.w_itAt, Dz.w_itAs, Dz.w_itAz, Dz.w_inT, Dz.w_inL, Dz.w_niT, Dz.w_inD, Dz.w_eqS, Dz.w_neS, Dz.w_eqI, Dz.w_neI, Dz.w_eqB, Dz.w_neB, Dz.w_eqL, Dz.w_neL, Dz.w_eqT, Dz.w_neT, Dz.dunNe_str, Dz.dunNe_bl, Dz.dunNe_int, Dz.dunNe_lst, Dz.dunNe_tup, Dz.dunNe_non, Dz.dunEq_str, Dz.dunEq_bl, Dz.dunEq_int, Dz.dunEq_lst, Dz.dunEq_tup, Dz.dunEq_non, Dz.dunIn_ins, Dz.tBoolX_ins, Dz.w_notB, Dz.w_isB, Dz.wp_bnd, List.map_cons, List.map_nil, List.length_cons, List.length_nil, List.replicate, List.cons_append, List.nil_append, List.append_nil, List.getElem?_cons_zero, List.getElem?_cons_succ, List.set_cons_zero, List.set_cons_succ, Nat.reduceAdd, Nat.reduceSub, Nat.zero_add, Nat.sub_zero, Bool.not_true, Bool.not_false, if_true, if_false, Bool.false_eq_true, reduceIte, decide_eq_true_eq, Option.map_some, Nat.reduceLeDiff]))
  rw [is_below_i (i := p.per) (t := c_MAX_PERIOD + 1) (by omega) (by show p.per < 2000 + 1; omega) hT]
  (try (simp only [Dz.wp_noE, Dz.noE_pur, Dz.w_var, Dz.w_c, Dz.w_op, Dz.w_ix, Dz.w_un, Dz.w_test, Dz.w_asB, Dz.w_not, Dz.w_and, Dz.w_or, Dz.w_if, Dz.w_sif, Dz.w_seq, Dz.after_nx, Dz.after_rt, Dz.w_next, Dz.w_ret, Dz.w_set, Dz.w_drop, Dz.w_put, Dz.w_nil, Dz.w_cons, Dz.w_cb, Dz.w_call, Dz.w_tup, Dz.w_lst, Dz.w_cell, Dz.w_for, Dz.w_of, Dz.w_rg, Dz.w_new, Dz.w_newC, Dz.w_lc, Dz.w_join, Dz.w_isS, Dz.w_chain, Dz.w_eand, Dz.w_eor, Dz.w_enot, Dz.w_ltS, Dz.w_leS, Dz.w_is, Dz.w_isnot, Dz.w_inS, Dz.w_rpr, Dz.w_itS, Dz.w_itL, Dz.w_itLs, Dz.w_itT, Dz.w_add, Dz.w_sub, Dz.w_neg, Dz.w_lt, Dz.w_le, Dz.w_gt, Dz.w_ge, Dz.w_int, Dz.w_intb, Dz.w_abs, Dz.w_max, Dz.w_min, Dz.w_lenL, Dz.w_lenT, Dz.w_lenR, Dz.wp_pur, Dz.startE, Dz.w_dtup, Dz.w_dlst, Dz.asDs_nil, Dz.asDs_cons, Dz.w_some, Dz.w_kTup, Dz.w_kLst, Dz.w_addL, Dz.w_addT, Dz.w_sl, Dz.w_oNone, Dz.w_oSome, Dz.w_asI, Dz.w_slL, Dz.w_slT, Dz.w_zp, Dz.w_itZL, Dz.w_itZT, Dz.w_rg3, Dz.w_par, Dz.w_asg, Dz.w_asD, Dz.w_fld, Dz.w_sfd, Dz.w_mk, Dz.w_pro, Dz.w_isI, Dz.w_met, Dz.w_ncb, Dz.w_tupL, Dz.w_tupT, Dz.w_listL, Dz.w_listT, Dz.w_sorted, Dz.w_minI, Dz.w_itA, Dz.w_itAt, Dz.w_itAs, Dz.w_itAz, Dz.w_inT, Dz.w_inL, Dz.w_niT, Dz.w_inD, Dz.w_eqS, Dz.w_neS, Dz.w_eqI, Dz.w_neI, Dz.w_eqB, Dz.w_neB, Dz.w_eqL, Dz.w_neL, Dz.w_eqT, Dz.w_neT, Dz.dunNe_str, Dz.dunNe_bl, Dz.dunNe_int, Dz.dunNe_lst, Dz.dunNe_tup, Dz.dunNe_non, Dz.dunEq_str, Dz.dunEq_bl, Dz.dunEq_int, Dz.dunEq_lst, Dz.dunEq_tup, Dz.dunEq_non, Dz.dunIn_ins, Dz.tBoolX_ins, Dz.w_notB, Dz.w_isB, Dz.wp_bnd, List.map_cons, List.map_nil, List.length_cons, List.length_nil, List.replicate, List.cons_append, List.nil_append, List.append_nil, List.getElem?_cons_zero, List.getElem?_cons_succ, List.set_cons_zero, List.set_cons_succ, Nat.reduceAdd, Nat.reduceSub, Nat.zero_add, Nat.sub_zero, Bool.not_true, Bool.not_false, if_true, if_false, Bool.false_eq_true, reduceIte, decide_eq_true_eq, Option.map_some, Nat.reduceLeDiff]))
  rw [if_neg (by simp; omega)]
  rw [are_below_eq k.fa k.fb (by omega) (by omega)]
  (try (simp only [Dz.wp_noE, Dz.noE_pur, Dz.w_var, Dz.w_c, Dz.w_op, Dz.w_ix, Dz.w_un, Dz.w_test, Dz.w_asB, Dz.w_not, Dz.w_and, Dz.w_or, Dz.w_if, Dz.w_sif, Dz.w_seq, Dz.after_nx, Dz.after_rt, Dz.w_next, Dz.w_ret, Dz.w_set, Dz.w_drop, Dz.w_put, Dz.w_nil, Dz.w_cons, Dz.w_cb, Dz.w_call, Dz.w_tup, Dz.w_lst, Dz.w_cell, Dz.w_for, Dz.w_of, Dz.w_rg, Dz.w_new, Dz.w_newC, Dz.w_lc, Dz.w_join, Dz.w_isS, Dz.w_chain, Dz.w_eand, Dz.w_eor, Dz.w_enot, Dz.w_ltS, Dz.w_leS, Dz.w_is, Dz.w_isnot, Dz.w_inS, Dz.w_rpr, Dz.w_itS, Dz.w_itL, Dz.w_itLs, Dz.w_itT, Dz.w_add, Dz.w_sub, Dz.w_neg, Dz.w_lt, Dz.w_le, Dz.w_gt, Dz.w_ge, Dz.w_int, Dz.w_intb, Dz.w_abs, Dz.w_max, Dz.w_min, Dz.w_lenL, Dz.w_lenT, Dz.w_lenR, Dz.wp_pur, Dz.startE, Dz.w_dtup, Dz.w_dlst, Dz.asDs_nil, Dz.asDs_cons, Dz.w_some, Dz.w_kTup, Dz.w_kLst, Dz.w_addL, Dz.w_addT, Dz.w_sl, Dz.w_oNone, Dz.w_oSome, Dz.w_asI, Dz.w_slL, Dz.w_slT, Dz.w_zp, Dz.w_itZL, Dz.w_itZT, Dz.w_rg3, Dz.w_par, Dz.w_asg, Dz.w_asD, Dz.w_fld, Dz.w_sfd, Dz.w_mk, Dz.w_pro, Dz.w_isI, Dz.w_met, Dz.w_ncb, Dz.w_tupL, Dz.w_tupT, Dz.w_listL, Dz.w_listT, Dz.w_sorted, Dz.w_minI, Dz.w_itA, Dz.w_itAt, Dz.w_itAs, Dz.w_itAz, Dz.w_inT, Dz.w_inL, Dz.w_niT, Dz.w_inD, Dz.w_eqS, Dz.w_neS, Dz.w_eqI, Dz.w_neI, Dz.w_eqB, Dz.w_neB, Dz.w_eqL, Dz.w_neL, Dz.w_eqT, Dz.w_neT, Dz.dunNe_str, Dz.dunNe_bl, Dz.dunNe_int, Dz.dunNe_lst, Dz.dunNe_tup, Dz.dunNe_non, Dz.dunEq_str, Dz.dunEq_bl, Dz.dunEq_int, Dz.dunEq_lst, Dz.dunEq_tup, Dz.dunEq_non, Dz.dunIn_ins, Dz.tBoolX_ins, Dz.w_notB, Dz.w_isB, Dz.wp_bnd, List.map_cons, List.map_nil, List.length_cons, List.length_nil, List.replicate, List.cons_append, List.nil_append, List.append_nil, List.getElem?_cons_zero, List.getElem?_cons_succ, List.set_cons_zero, List.set_cons_succ, Nat.reduceAdd, Nat.reduceSub, Nat.zero_add, Nat.sub_zero, Bool.not_true, Bool.not_false, if_true, if_false, Bool.false_eq_true, reduceIte, decide_eq_true_eq, Option.map_some, Nat.reduceLeDiff]))
  rw [are_below_eq k.ra k.rb (by omega) (by omega)]
  (try (simp only [Dz.wp_noE, Dz.noE_pur, Dz.w_var, Dz.w_c, Dz.w_op, Dz.w_ix, Dz.w_un, Dz.w_test, Dz.w_asB, Dz.w_not, Dz.w_and, Dz.w_or, Dz.w_if, Dz.w_sif, Dz.w_seq, Dz.after_nx, Dz.after_rt, Dz.w_next, Dz.w_ret, Dz.w_set, Dz.w_drop, Dz.w_put, Dz.w_nil, Dz.w_cons, Dz.w_cb, Dz.w_call, Dz.w_tup, Dz.w_lst, Dz.w_cell, Dz.w_for, Dz.w_of, Dz.w_rg, Dz.w_new, Dz.w_newC, Dz.w_lc, Dz.w_join, Dz.w_isS, Dz.w_chain, Dz.w_eand, Dz.w_eor, Dz.w_enot, Dz.w_ltS, Dz.w_leS, Dz.w_is, Dz.w_isnot, Dz.w_inS, Dz.w_rpr, Dz.w_itS, Dz.w_itL, Dz.w_itLs, Dz.w_itT, Dz.w_add, Dz.w_sub, Dz.w_neg, Dz.w_lt, Dz.w_le, Dz.w_gt, Dz.w_ge, Dz.w_int, Dz.w_intb, Dz.w_abs, Dz.w_max, Dz.w_min, Dz.w_lenL, Dz.w_lenT, Dz.w_lenR, Dz.wp_pur, Dz.startE, Dz.w_dtup, Dz.w_dlst, Dz.asDs_nil, Dz.asDs_cons, Dz.w_some, Dz.w_kTup, Dz.w_kLst, Dz.w_addL, Dz.w_addT, Dz.w_sl, Dz.w_oNone, Dz.w_oSome, Dz.w_asI, Dz.w_slL, Dz.w_slT, Dz.w_zp, Dz.w_itZL, Dz.w_itZT, Dz.w_rg3, Dz.w_par, Dz.w_asg, Dz.w_asD, Dz.w_fld, Dz.w_sfd, Dz.w_mk, Dz.w_pro, Dz.w_isI, Dz.w_met, Dz.w_ncb, Dz.w_tupL, Dz.w_tupT, Dz.w_listL, Dz.w_listT, Dz.w_sorted, Dz.w_minI, Dz.w_itA, Dz.w_itAt, Dz.w_itAs, Dz.w_itAz, Dz.w_inT, Dz.w_inL, Dz.w_niT, Dz.w_inD, Dz.w_eqS, Dz.w_neS, Dz.w_eqI, Dz.w_neI, Dz.w_eqB, Dz.w_neB, Dz.w_eqL, Dz.w_neL, Dz.w_eqT, Dz.w_neT, Dz.dunNe_str, Dz.dunNe_bl, Dz.dunNe_int, Dz.dunNe_lst, Dz.dunNe_tup, Dz.dunNe_non, Dz.dunEq_str, Dz.dunEq_bl, Dz.dunEq_int, Dz.dunEq_lst, Dz.dunEq_tup, Dz.dunEq_non, Dz.dunIn_ins, Dz.tBoolX_ins, Dz.w_notB, Dz.w_isB, Dz.wp_bnd, List.map_cons, List.map_nil, List.length_cons, List.length_nil, List.replicate, List.cons_append, List.nil_append, List.append_nil, List.getElem?_cons_zero, List.getElem?_cons_succ, List.set_cons_zero, List.set_cons_succ, Nat.reduceAdd, Nat.reduceSub, Nat.zero_add, Nat.sub_zero, Bool.not_true, Bool.not_false, if_true, if_false, Bool.false_eq_true, reduceIte, decide_eq_true_eq, Option.map_some, Nat.reduceLeDiff]))
  rw [least_period_eq p0 p1 (by omega)]
  (try (simp only [Dz.wp_noE, Dz.noE_pur, Dz.w_var, Dz.w_c, Dz.w_op, Dz.w_ix, Dz.w_un, Dz.w_test, Dz.w_asB, Dz.w_not, Dz.w_and, Dz.w_or, Dz.w_if, Dz.w_sif, Dz.w_seq, Dz.after_nx, Dz.after_rt, Dz.w_next, Dz.w_ret, Dz.w_set, Dz.w_drop, Dz.w_put, Dz.w_nil, Dz.w_cons, Dz.w_cb, Dz.w_call, Dz.w_tup, Dz.w_lst, Dz.w_cell, Dz.w_for, Dz.w_of, Dz.w_rg, Dz.w_new, Dz.w_newC, Dz.w_lc, Dz.w_join, Dz.w_isS, Dz.w_chain, Dz.w_eand, Dz.w_eor, Dz.w_enot, Dz.w_ltS, Dz.w_leS, Dz.w_is, Dz.w_isnot, Dz.w_inS, Dz.w_rpr, Dz.w_itS, Dz.w_itL, Dz.w_itLs, Dz.w_itT, Dz.w_add, Dz.w_sub, Dz.w_neg, Dz.w_lt, Dz.w_le, Dz.w_gt, Dz.w_ge, Dz.w_int, Dz.w_intb, Dz.w_abs, Dz.w_max, Dz.w_min, Dz.w_lenL, Dz.w_lenT, Dz.w_lenR, Dz.wp_pur, Dz.startE, Dz.w_dtup, Dz.w_dlst, Dz.asDs_nil, Dz.asDs_cons, Dz.w_some, Dz.w_kTup, Dz.w_kLst, Dz.w_addL, Dz.w_addT, Dz.w_sl, Dz.w_oNone, Dz.w_oSome, Dz.w_asI, Dz.w_slL, Dz.w_slT, Dz.w_zp, Dz.w_itZL, Dz.w_itZT, Dz.w_rg3, Dz.w_par, Dz.w_asg, Dz.w_asD, Dz.w_fld, Dz.w_sfd, Dz.w_mk, Dz.w_pro, Dz.w_isI, Dz.w_met, Dz.w_ncb, Dz.w_tupL, Dz.w_tupT, Dz.w_listL, Dz.w_listT, Dz.w_sorted, Dz.w_minI, Dz.w_itA, Dz.w_itAt, Dz.w_itAs, Dz.w_itAz, Dz.w_inT, Dz.w_inL, Dz.w_niT, Dz.w_inD, Dz.w_eqS, Dz.w_neS, Dz.w_eqI, Dz.w_neI, Dz.w_eqB, Dz.w_neB, Dz.w_eqL, Dz.w_neL, Dz.w_eqT, Dz.w_neT, Dz.dunNe_str, Dz.dunNe_bl, Dz.dunNe_int, Dz.dunNe_lst, Dz.dunNe_tup, Dz.dunNe_non, Dz.dunEq_str, Dz.dunEq_bl, Dz.dunEq_int, Dz.dunEq_lst, Dz.dunEq_tup, Dz.dunEq_non, Dz.dunIn_ins, Dz.tBoolX_ins, Dz.w_notB, Dz.w_isB, Dz.wp_bnd, List.map_cons, List.map_nil, List.length_cons, List.length_nil, List.replicate, List.cons_append, List.nil_append, List.append_nil, List.getElem?_cons_zero, List.getElem?_cons_succ, List.set_cons_zero, List.set_cons_succ, Nat.reduceAdd, Nat.reduceSub, Nat.zero_add, Nat.sub_zero, Bool.not_true, Bool.not_false, if_true, if_false, Bool.false_eq_true, reduceIte, decide_eq_true_eq, Option.map_some, Nat.reduceLeDiff]))
  rw [w_stL (by decide) (by decide)]
  rw [if_pos (by rw [List.length_map]; omega)]
  refine wp_lcL (b := fun x => decide (x < lper p.rst p.per)) (v := D.int) p.rst (fun n hn => ⟨at_wp fun Q q => ?_, fun _ => rfl⟩) ?_
  · show wp (eTest (eOp cLt (eVar 5) (eFld ["Limits"] "own_period" (eVar 0))) [some (.c S.length), some (.d (.tup (p.few.map D.int))), some (.d (.int p.fst)), some (.d (.int p.per)), some (.d (.tup (p.rst.map D.int))), some (.d (.int n)), none]) _ Q
    (try (simp only [Dz.wp_noE, Dz.noE_pur, Dz.w_var, Dz.w_c, Dz.w_op, Dz.w_ix, Dz.w_un, Dz.w_test, Dz.w_asB, Dz.w_not, Dz.w_and, Dz.w_or, Dz.w_if, Dz.w_sif, Dz.w_seq, Dz.after_nx, Dz.after_rt, Dz.w_next, Dz.w_ret, Dz.w_set, Dz.w_drop, Dz.w_put, Dz.w_nil, Dz.w_cons, Dz.w_cb, Dz.w_call, Dz.w_tup, Dz.w_lst, Dz.w_cell, Dz.w_for, Dz.w_of, Dz.w_rg, Dz.w_new, Dz.w_newC, Dz.w_lc, Dz.w_join, Dz.w_isS, Dz.w_chain, Dz.w_eand, Dz.w_eor, Dz.w_enot, Dz.w_ltS, Dz.w_leS, Dz.w_is, Dz.w_isnot, Dz.w_inS, Dz.w_rpr, Dz.w_itS, Dz.w_itL, Dz.w_itLs, Dz.w_itT, Dz.w_add, Dz.w_sub, Dz.w_neg, Dz.w_lt, Dz.w_le, Dz.w_gt, Dz.w_ge, Dz.w_int, Dz.w_intb, Dz.w_abs, Dz.w_max, Dz.w_min, Dz.w_lenL, Dz.w_lenT, Dz.w_lenR, Dz.wp_pur, Dz.startE, Dz.w_dtup, Dz.w_dlst, Dz.asDs_nil, Dz.asDs_cons, Dz.w_some, Dz.w_kTup, Dz.w_kLst, Dz.w_addL, Dz.w_addT, Dz.w_sl, Dz.w_oNone, Dz.w_oSome, Dz.w_asI, Dz.w_slL, Dz.w_slT, Dz.w_zp, Dz.w_itZL, Dz.w_itZT, Dz.w_rg3, Dz.w_par, Dz.w_asg, Dz.w_asD, Dz.w_fld, Dz.w_sfd, Dz.w_mk, Dz.w_pro, Dz.w_isI, Dz.w_met, Dz.w_ncb, Dz.w_tupL, Dz.w_tupT, Dz.w_listL, Dz.w_listT, Dz.w_sorted, Dz.w_minI, Dz.w_itA, Dz.w_itAt, Dz.w_itAs, Dz.w_itAz, Dz.w_inT, Dz.w_inL, Dz.w_niT, Dz.w_inD, Dz.w_eqS, Dz.w_neS, Dz.w_eqI, Dz.w_neI, Dz.w_eqB, Dz.w_neB, Dz.w_eqL, Dz.w_neL, Dz.w_eqT, Dz.w_neT, Dz.dunNe_str, Dz.dunNe_bl, Dz.dunNe_int, Dz.dunNe_lst, Dz.dunNe_tup, Dz.dunNe_non, Dz.dunEq_str, Dz.dunEq_bl, Dz.dunEq_int, Dz.dunEq_lst, Dz.dunEq_tup, Dz.dunEq_non, Dz.dunIn_ins, Dz.tBoolX_ins, Dz.w_notB, Dz.w_isB, Dz.wp_bnd, List.map_cons, List.map_nil, List.length_cons, List.length_nil, List.replicate, List.cons_append, List.nil_append, List.append_nil, List.getElem?_cons_zero, List.getElem?_cons_succ, List.set_cons_zero, List.set_cons_succ, Nat.reduceAdd, Nat.reduceSub, Nat.zero_add, Nat.sub_zero, Bool.not_true, Bool.not_false, if_true, if_false, Bool.false_eq_true, reduceIte, decide_eq_true_eq, Option.map_some, Nat.reduceLeDiff]))
    rw [w_fldL (by decide) (by rfl)]
    (try (simp only [Dz.wp_noE, Dz.noE_pur, Dz.w_var, Dz.w_c, Dz.w_op, Dz.w_ix, Dz.w_un, Dz.w_test, Dz.w_asB, Dz.w_not, Dz.w_and, Dz.w_or, Dz.w_if, Dz.w_sif, Dz.w_seq, Dz.after_nx, Dz.after_rt, Dz.w_next, Dz.w_ret, Dz.w_set, Dz.w_drop, Dz.w_put, Dz.w_nil, Dz.w_cons, Dz.w_cb, Dz.w_call, Dz.w_tup, Dz.w_lst, Dz.w_cell, Dz.w_for, Dz.w_of, Dz.w_rg, Dz.w_new, Dz.w_newC, Dz.w_lc, Dz.w_join, Dz.w_isS, Dz.w_chain, Dz.w_eand, Dz.w_eor, Dz.w_enot, Dz.w_ltS, Dz.w_leS, Dz.w_is, Dz.w_isnot, Dz.w_inS, Dz.w_rpr, Dz.w_itS, Dz.w_itL, Dz.w_itLs, Dz.w_itT, Dz.w_add, Dz.w_sub, Dz.w_neg, Dz.w_lt, Dz.w_le, Dz.w_gt, Dz.w_ge, Dz.w_int, Dz.w_intb, Dz.w_abs, Dz.w_max, Dz.w_min, Dz.w_lenL, Dz.w_lenT, Dz.w_lenR, Dz.wp_pur, Dz.startE, Dz.w_dtup, Dz.w_dlst, Dz.asDs_nil, Dz.asDs_cons, Dz.w_some, Dz.w_kTup, Dz.w_kLst, Dz.w_addL, Dz.w_addT, Dz.w_sl, Dz.w_oNone, Dz.w_oSome, Dz.w_asI, Dz.w_slL, Dz.w_slT, Dz.w_zp, Dz.w_itZL, Dz.w_itZT, Dz.w_rg3, Dz.w_par, Dz.w_asg, Dz.w_asD, Dz.w_fld, Dz.w_sfd, Dz.w_mk, Dz.w_pro, Dz.w_isI, Dz.w_met, Dz.w_ncb, Dz.w_tupL, Dz.w_tupT, Dz.w_listL, Dz.w_listT, Dz.w_sorted, Dz.w_minI, Dz.w_itA, Dz.w_itAt, Dz.w_itAs, Dz.w_itAz, Dz.w_inT, Dz.w_inL, Dz.w_niT, Dz.w_inD, Dz.w_eqS, Dz.w_neS, Dz.w_eqI, Dz.w_neI, Dz.w_eqB, Dz.w_neB, Dz.w_eqL, Dz.w_neL, Dz.w_eqT, Dz.w_neT, Dz.dunNe_str, Dz.dunNe_bl, Dz.dunNe_int, Dz.dunNe_lst, Dz.dunNe_tup, Dz.dunNe_non, Dz.dunEq_str, Dz.dunEq_bl, Dz.dunEq_int, Dz.dunEq_lst, Dz.dunEq_tup, Dz.dunEq_non, Dz.dunIn_ins, Dz.tBoolX_ins, Dz.w_notB, Dz.w_isB, Dz.wp_bnd, List.map_cons, List.map_nil, List.length_cons, List.length_nil, List.replicate, List.cons_append, List.nil_append, List.append_nil, List.getElem?_cons_zero, List.getElem?_cons_succ, List.set_cons_zero, List.set_cons_succ, Nat.reduceAdd, Nat.reduceSub, Nat.zero_add, Nat.sub_zero, Bool.not_true, Bool.not_false, if_true, if_false, Bool.false_eq_true, reduceIte, decide_eq_true_eq, Option.map_some, Nat.reduceLeDiff]))
    exact q
  rw [w_stL (by decide) (putFD_lt (by decide))]
  rw [w_fldL (by decide) (by rfl), w_fldL (by decide) (by rfl)]
  have q1 : 1 ≤ lper p.rst p.per := (canon_per k).1
  have c1 := canon_first k
  have lr' : (p.rst.filter fun x => decide (x < lper p.rst p.per)).length ≤ 2000 := Nat.le_trans (List.length_filter_le _ _) lr
  rw [least_first_eq f0 f1 q1 (by omega) (by omega), wp_pur, w_stL (by decide) (putFD_lt (putFD_lt (by decide)))]
  rw [if_pos (by rw [List.length_map]; omega)]
  refine wp_lcL (b := fun x => decide (x < (canon p).fst)) (v := D.int) p.few (fun n hn => ⟨at_wp fun Q q => ?_, fun _ => rfl⟩) ?_
  · show wp (eTest (eOp cLt (eVar 6) (eFld ["Limits"] "own_first" (eVar 0))) [some (.c S.length), some (.d (.tup (p.few.map D.int))), some (.d (.int p.fst)), some (.d (.int p.per)), some (.d (.tup (p.rst.map D.int))), none, some (.d (.int n))]) _ Q
    (try (simp only [Dz.wp_noE, Dz.noE_pur, Dz.w_var, Dz.w_c, Dz.w_op, Dz.w_ix, Dz.w_un, Dz.w_test, Dz.w_asB, Dz.w_not, Dz.w_and, Dz.w_or, Dz.w_if, Dz.w_sif, Dz.w_seq, Dz.after_nx, Dz.after_rt, Dz.w_next, Dz.w_ret, Dz.w_set, Dz.w_drop, Dz.w_put, Dz.w_nil, Dz.w_cons, Dz.w_cb, Dz.w_call, Dz.w_tup, Dz.w_lst, Dz.w_cell, Dz.w_for, Dz.w_of, Dz.w_rg, Dz.w_new, Dz.w_newC, Dz.w_lc, Dz.w_join, Dz.w_isS, Dz.w_chain, Dz.w_eand, Dz.w_eor, Dz.w_enot, Dz.w_ltS, Dz.w_leS, Dz.w_is, Dz.w_isnot, Dz.w_inS, Dz.w_rpr, Dz.w_itS, Dz.w_itL, Dz.w_itLs, Dz.w_itT, Dz.w_add, Dz.w_sub, Dz.w_neg, Dz.w_lt, Dz.w_le, Dz.w_gt, Dz.w_ge, Dz.w_int, Dz.w_intb, Dz.w_abs, Dz.w_max, Dz.w_min, Dz.w_lenL, Dz.w_lenT, Dz.w_lenR, Dz.wp_pur, Dz.startE, Dz.w_dtup, Dz.w_dlst, Dz.asDs_nil, Dz.asDs_cons, Dz.w_some, Dz.w_kTup, Dz.w_kLst, Dz.w_addL, Dz.w_addT, Dz.w_sl, Dz.w_oNone, Dz.w_oSome, Dz.w_asI, Dz.w_slL, Dz.w_slT, Dz.w_zp, Dz.w_itZL, Dz.w_itZT, Dz.w_rg3, Dz.w_par, Dz.w_asg, Dz.w_asD, Dz.w_fld, Dz.w_sfd, Dz.w_mk, Dz.w_pro, Dz.w_isI, Dz.w_met, Dz.w_ncb, Dz.w_tupL, Dz.w_tupT, Dz.w_listL, Dz.w_listT, Dz.w_sorted, Dz.w_minI, Dz.w_itA, Dz.w_itAt, Dz.w_itAs, Dz.w_itAz, Dz.w_inT, Dz.w_inL, Dz.w_niT, Dz.w_inD, Dz.w_eqS, Dz.w_neS, Dz.w_eqI, Dz.w_neI, Dz.w_eqB, Dz.w_neB, Dz.w_eqL, Dz.w_neL, Dz.w_eqT, Dz.w_neT, Dz.dunNe_str, Dz.dunNe_bl, Dz.dunNe_int, Dz.dunNe_lst, Dz.dunNe_tup, Dz.dunNe_non, Dz.dunEq_str, Dz.dunEq_bl, Dz.dunEq_int, Dz.dunEq_lst, Dz.dunEq_tup, Dz.dunEq_non, Dz.dunIn_ins, Dz.tBoolX_ins, Dz.w_notB, Dz.w_isB, Dz.wp_bnd, List.map_cons, List.map_nil, List.length_cons, List.length_nil, List.replicate, List.cons_append, List.nil_append, List.append_nil, List.getElem?_cons_zero, List.getElem?_cons_succ, List.set_cons_zero, List.set_cons_succ, Nat.reduceAdd, Nat.reduceSub, Nat.zero_add, Nat.sub_zero, Bool.not_true, Bool.not_false, if_true, if_false, Bool.false_eq_true, reduceIte, decide_eq_true_eq, Option.map_some, Nat.reduceLeDiff]))
    rw [w_fldL (by decide) (by rfl)]
    (try (simp only [Dz.wp_noE, Dz.noE_pur, Dz.w_var, Dz.w_c, Dz.w_op, Dz.w_ix, Dz.w_un, Dz.w_test, Dz.w_asB, Dz.w_not, Dz.w_and, Dz.w_or, Dz.w_if, Dz.w_sif, Dz.w_seq, Dz.after_nx, Dz.after_rt, Dz.w_next, Dz.w_ret, Dz.w_set, Dz.w_drop, Dz.w_put, Dz.w_nil, Dz.w_cons, Dz.w_cb, Dz.w_call, Dz.w_tup, Dz.w_lst, Dz.w_cell, Dz.w_for, Dz.w_of, Dz.w_rg, Dz.w_new, Dz.w_newC, Dz.w_lc, Dz.w_join, Dz.w_isS, Dz.w_chain, Dz.w_eand, Dz.w_eor, Dz.w_enot, Dz.w_ltS, Dz.w_leS, Dz.w_is, Dz.w_isnot, Dz.w_inS, Dz.w_rpr, Dz.w_itS, Dz.w_itL, Dz.w_itLs, Dz.w_itT, Dz.w_add, Dz.w_sub, Dz.w_neg, Dz.w_lt, Dz.w_le, Dz.w_gt, Dz.w_ge, Dz.w_int, Dz.w_intb, Dz.w_abs, Dz.w_max, Dz.w_min, Dz.w_lenL, Dz.w_lenT, Dz.w_lenR, Dz.wp_pur, Dz.startE, Dz.w_dtup, Dz.w_dlst, Dz.asDs_nil, Dz.asDs_cons, Dz.w_some, Dz.w_kTup, Dz.w_kLst, Dz.w_addL, Dz.w_addT, Dz.w_sl, Dz.w_oNone, Dz.w_oSome, Dz.w_asI, Dz.w_slL, Dz.w_slT, Dz.w_zp, Dz.w_itZL, Dz.w_itZT, Dz.w_rg3, Dz.w_par, Dz.w_asg, Dz.w_asD, Dz.w_fld, Dz.w_sfd, Dz.w_mk, Dz.w_pro, Dz.w_isI, Dz.w_met, Dz.w_ncb, Dz.w_tupL, Dz.w_tupT, Dz.w_listL, Dz.w_listT, Dz.w_sorted, Dz.w_minI, Dz.w_itA, Dz.w_itAt, Dz.w_itAs, Dz.w_itAz, Dz.w_inT, Dz.w_inL, Dz.w_niT, Dz.w_inD, Dz.w_eqS, Dz.w_neS, Dz.w_eqI, Dz.w_neI, Dz.w_eqB, Dz.w_neB, Dz.w_eqL, Dz.w_neL, Dz.w_eqT, Dz.w_neT, Dz.dunNe_str, Dz.dunNe_bl, Dz.dunNe_int, Dz.dunNe_lst, Dz.dunNe_tup, Dz.dunNe_non, Dz.dunEq_str, Dz.dunEq_bl, Dz.dunEq_int, Dz.dunEq_lst, Dz.dunEq_tup, Dz.dunEq_non, Dz.dunIn_ins, Dz.tBoolX_ins, Dz.w_notB, Dz.w_isB, Dz.wp_bnd, List.map_cons, List.map_nil, List.length_cons, List.length_nil, List.replicate, List.cons_append, List.nil_append, List.append_nil, List.getElem?_cons_zero, List.getElem?_cons_succ, List.set_cons_zero, List.set_cons_succ, Nat.reduceAdd, Nat.reduceSub, Nat.zero_add, Nat.sub_zero, Bool.not_true, Bool.not_false, if_true, if_false, Bool.false_eq_true, reduceIte, decide_eq_true_eq, Option.map_some, Nat.reduceLeDiff]))
    exact q
  rw [w_stL (by decide) (putFD_lt (putFD_lt (putFD_lt (by decide))))]
  rw [w_fldL (by decide) (by rfl), w_fldL (by decide) (by rfl), w_fldL (by decide) (by rfl)]
  rw [begins_eq q1 (by omega), wp_pur, w_stL (by decide) (putFD_lt (putFD_lt (putFD_lt (putFD_lt (by decide)))))]
  refine ⟨⟨_, rfl⟩, trivial, "Limits", insF (canon p), ?_, ?_⟩
  · rw [List.take_of_length_le (by simp), List.getElem?_concat_length]
    rfl
  · rw [List.take_of_length_le (l := S ++ _) (by simp), List.take_left]
    exact q
end K03

namespace K03
open PySem PySem.Spec PyProof.Rows L2 Dz


open Lim
/-! ### what an instance tells -/
theorem bool_eq (p : Pt) : f_Limits___bool__ [.d (insL p)] = pur (.d (.bl (decide (0 < p.few.length + p.rst.length)))) := fn_by fun S Q q => by
  unfold b_Limits___bool__ insL
  (try (simp only [Dz.wp_noE, Dz.noE_pur, Dz.w_var, Dz.w_c, Dz.w_op, Dz.w_ix, Dz.w_un, Dz.w_test, Dz.w_asB, Dz.w_not, Dz.w_and, Dz.w_or, Dz.w_if, Dz.w_sif, Dz.w_seq, Dz.after_nx, Dz.after_rt, Dz.w_next, Dz.w_ret, Dz.w_set, Dz.w_drop, Dz.w_put, Dz.w_nil, Dz.w_cons, Dz.w_cb, Dz.w_call, Dz.w_tup, Dz.w_lst, Dz.w_cell, Dz.w_for, Dz.w_of, Dz.w_rg, Dz.w_new, Dz.w_newC, Dz.w_lc, Dz.w_join, Dz.w_isS, Dz.w_chain, Dz.w_eand, Dz.w_eor, Dz.w_enot, Dz.w_ltS, Dz.w_leS, Dz.w_is, Dz.w_isnot, Dz.w_inS, Dz.w_rpr, Dz.w_itS, Dz.w_itL, Dz.w_itLs, Dz.w_itT, Dz.w_add, Dz.w_sub, Dz.w_neg, Dz.w_lt, Dz.w_le, Dz.w_gt, Dz.w_ge, Dz.w_int, Dz.w_intb, Dz.w_abs, Dz.w_max, Dz.w_min, Dz.w_lenL, Dz.w_lenT, Dz.w_lenR, Dz.wp_pur, Dz.startE, Dz.w_dtup, Dz.w_dlst, Dz.asDs_nil, Dz.asDs_cons, Dz.w_some, Dz.w_kTup, Dz.w_kLst, Dz.w_addL, Dz.w_addT, Dz.w_sl, Dz.w_oNone, Dz.w_oSome, Dz.w_asI, Dz.w_slL, Dz.w_slT, Dz.w_zp, Dz.w_itZL, Dz.w_itZT, Dz.w_rg3, Dz.w_par, Dz.w_asg, Dz.w_asD, Dz.w_fld, Dz.w_sfd, Dz.w_mk, Dz.w_pro, Dz.w_isI, Dz.w_met, Dz.w_ncb, Dz.w_tupL, Dz.w_tupT, Dz.w_listL, Dz.w_listT, Dz.w_sorted, Dz.w_minI, Dz.w_itA, Dz.w_itAt, Dz.w_itAs, Dz.w_itAz, Dz.w_inT, Dz.w_inL, Dz.w_niT, Dz.w_inD, Dz.w_eqS, Dz.w_neS, Dz.w_eqI, Dz.w_neI, Dz.w_eqB, Dz.w_neB, Dz.w_eqL, Dz.w_neL, Dz.w_eqT, Dz.w_neT, Dz.dunNe_str, Dz.dunNe_bl, Dz.dunNe_int, Dz.dunNe_lst, Dz.dunNe_tup, Dz.dunNe_non, Dz.dunEq_str, Dz.dunEq_bl, Dz.dunEq_int, Dz.dunEq_lst, Dz.dunEq_tup, Dz.dunEq_non, Dz.dunIn_ins, Dz.tBoolX_ins, Dz.w_notB, Dz.w_isB, Dz.wp_bnd, List.map_cons, List.map_nil, List.length_cons, List.length_nil, List.replicate, List.cons_append, List.nil_append, List.append_nil, List.getElem?_cons_zero, List.getElem?_cons_succ, List.set_cons_zero, List.set_cons_succ, Nat.reduceAdd, Nat.reduceSub, Nat.zero_add, Nat.sub_zero, Bool.not_true, Bool.not_false, if_true, if_false, Bool.false_eq_true, reduceIte, decide_eq_true_eq, Option.map_some, Nat.reduceLeDiff]))
  rw [w_fldD (by decide) (by rfl), w_lenT, w_fldD (by decide) (by rfl), w_lenT]
  (try (simp only [Dz.wp_noE, Dz.noE_pur, Dz.w_var, Dz.w_c, Dz.w_op, Dz.w_ix, Dz.w_un, Dz.w_test, Dz.w_asB, Dz.w_not, Dz.w_and, Dz.w_or, Dz.w_if, Dz.w_sif, Dz.w_seq, Dz.after_nx, Dz.after_rt, Dz.w_next, Dz.w_ret, Dz.w_set, Dz.w_drop, Dz.w_put, Dz.w_nil, Dz.w_cons, Dz.w_cb, Dz.w_call, Dz.w_tup, Dz.w_lst, Dz.w_cell, Dz.w_for, Dz.w_of, Dz.w_rg, Dz.w_new, Dz.w_newC, Dz.w_lc, Dz.w_join, Dz.w_isS, Dz.w_chain, Dz.w_eand, Dz.w_eor, Dz.w_enot, Dz.w_ltS, Dz.w_leS, Dz.w_is, Dz.w_isnot, Dz.w_inS, Dz.w_rpr, Dz.w_itS, Dz.w_itL, Dz.w_itLs, Dz.w_itT, Dz.w_add, Dz.w_sub, Dz.w_neg, Dz.w_lt, Dz.w_le, Dz.w_gt, Dz.w_ge, Dz.w_int, Dz.w_intb, Dz.w_abs, Dz.w_max, Dz.w_min, Dz.w_lenL, Dz.w_lenT, Dz.w_lenR, Dz.wp_pur, Dz.startE, Dz.w_dtup, Dz.w_dlst, Dz.asDs_nil, Dz.asDs_cons, Dz.w_some, Dz.w_kTup, Dz.w_kLst, Dz.w_addL, Dz.w_addT, Dz.w_sl, Dz.w_oNone, Dz.w_oSome, Dz.w_asI, Dz.w_slL, Dz.w_slT, Dz.w_zp, Dz.w_itZL, Dz.w_itZT, Dz.w_rg3, Dz.w_par, Dz.w_asg, Dz.w_asD, Dz.w_fld, Dz.w_sfd, Dz.w_mk, Dz.w_pro, Dz.w_isI, Dz.w_met, Dz.w_ncb, Dz.w_tupL, Dz.w_tupT, Dz.w_listL, Dz.w_listT, Dz.w_sorted, Dz.w_minI, Dz.w_itA, Dz.w_itAt, Dz.w_itAs, Dz.w_itAz, Dz.w_inT, Dz.w_inL, Dz.w_niT, Dz.w_inD, Dz.w_eqS, Dz.w_neS, Dz.w_eqI, Dz.w_neI, Dz.w_eqB, Dz.w_neB, Dz.w_eqL, Dz.w_neL, Dz.w_eqT, Dz.w_neT, Dz.dunNe_str, Dz.dunNe_bl, Dz.dunNe_int, Dz.dunNe_lst, Dz.dunNe_tup, Dz.dunNe_non, Dz.dunEq_str, Dz.dunEq_bl, Dz.dunEq_int, Dz.dunEq_lst, Dz.dunEq_tup, Dz.dunEq_non, Dz.dunIn_ins, Dz.tBoolX_ins, Dz.w_notB, Dz.w_isB, Dz.wp_bnd, List.map_cons, List.map_nil, List.length_cons, List.length_nil, List.replicate, List.cons_append, List.nil_append, List.append_nil, List.getElem?_cons_zero, List.getElem?_cons_succ, List.set_cons_zero, List.set_cons_succ, Nat.reduceAdd, Nat.reduceSub, Nat.zero_add, Nat.sub_zero, Bool.not_true, Bool.not_false, if_true, if_false, Bool.false_eq_true, reduceIte, decide_eq_true_eq, Option.map_some, Nat.reduceLeDiff]))
  rw [List.length_map, List.length_map]
  have e : decide ((0 : Int) < (p.few.length : Int) + (p.rst.length : Int)) = decide (0 < p.few.length + p.rst.length) := by
    rw [decide_eq_decide]
    omega
  rw [e]
  exact q
theorem has_number_eq {p : Pt} (h : 1 ≤ p.per) (n : Int) : f_has_number [.d (insL p), .d (.int n)] = pur (.d (.bl (has p n))) := fn_by fun S Q q => by
  unfold b_has_number insL
  (try (simp only [Dz.wp_noE, Dz.noE_pur, Dz.w_var, Dz.w_c, Dz.w_op, Dz.w_ix, Dz.w_un, Dz.w_test, Dz.w_asB, Dz.w_not, Dz.w_and, Dz.w_or, Dz.w_if, Dz.w_sif, Dz.w_seq, Dz.after_nx, Dz.after_rt, Dz.w_next, Dz.w_ret, Dz.w_set, Dz.w_drop, Dz.w_put, Dz.w_nil, Dz.w_cons, Dz.w_cb, Dz.w_call, Dz.w_tup, Dz.w_lst, Dz.w_cell, Dz.w_for, Dz.w_of, Dz.w_rg, Dz.w_new, Dz.w_newC, Dz.w_lc, Dz.w_join, Dz.w_isS, Dz.w_chain, Dz.w_eand, Dz.w_eor, Dz.w_enot, Dz.w_ltS, Dz.w_leS, Dz.w_is, Dz.w_isnot, Dz.w_inS, Dz.w_rpr, Dz.w_itS, Dz.w_itL, Dz.w_itLs, Dz.w_itT, Dz.w_add, Dz.w_sub, Dz.w_neg, Dz.w_lt, Dz.w_le, Dz.w_gt, Dz.w_ge, Dz.w_int, Dz.w_intb, Dz.w_abs, Dz.w_max, Dz.w_min, Dz.w_lenL, Dz.w_lenT, Dz.w_lenR, Dz.wp_pur, Dz.startE, Dz.w_dtup, Dz.w_dlst, Dz.asDs_nil, Dz.asDs_cons, Dz.w_some, Dz.w_kTup, Dz.w_kLst, Dz.w_addL, Dz.w_addT, Dz.w_sl, Dz.w_oNone, Dz.w_oSome, Dz.w_asI, Dz.w_slL, Dz.w_slT, Dz.w_zp, Dz.w_itZL, Dz.w_itZT, Dz.w_rg3, Dz.w_par, Dz.w_asg, Dz.w_asD, Dz.w_fld, Dz.w_sfd, Dz.w_mk, Dz.w_pro, Dz.w_isI, Dz.w_met, Dz.w_ncb, Dz.w_tupL, Dz.w_tupT, Dz.w_listL, Dz.w_listT, Dz.w_sorted, Dz.w_minI, Dz.w_itA, Dz.w_itAt, Dz.w_itAs, Dz.w_itAz, Dz.w_inT, Dz.w_inL, Dz.w_niT, Dz.w_inD, Dz.w_eqS, Dz.w_neS, Dz.w_eqI, Dz.w_neI, Dz.w_eqB, Dz.w_neB, Dz.w_eqL, Dz.w_neL, Dz.w_eqT, Dz.w_neT, Dz.dunNe_str, Dz.dunNe_bl, Dz.dunNe_int, Dz.dunNe_lst, Dz.dunNe_tup, Dz.dunNe_non, Dz.dunEq_str, Dz.dunEq_bl, Dz.dunEq_int, Dz.dunEq_lst, Dz.dunEq_tup, Dz.dunEq_non, Dz.dunIn_ins, Dz.tBoolX_ins, Dz.w_notB, Dz.w_isB, Dz.wp_bnd, List.map_cons, List.map_nil, List.length_cons, List.length_nil, List.replicate, List.cons_append, List.nil_append, List.append_nil, List.getElem?_cons_zero, List.getElem?_cons_succ, List.set_cons_zero, List.set_cons_succ, Nat.reduceAdd, Nat.reduceSub, Nat.zero_add, Nat.sub_zero, Bool.not_true, Bool.not_false, if_true, if_false, Bool.false_eq_true, reduceIte, decide_eq_true_eq, Option.map_some, Nat.reduceLeDiff]))
  rw [w_fldD (by decide) (by rfl)]
  (try (simp only [Dz.wp_noE, Dz.noE_pur, Dz.w_var, Dz.w_c, Dz.w_op, Dz.w_ix, Dz.w_un, Dz.w_test, Dz.w_asB, Dz.w_not, Dz.w_and, Dz.w_or, Dz.w_if, Dz.w_sif, Dz.w_seq, Dz.after_nx, Dz.after_rt, Dz.w_next, Dz.w_ret, Dz.w_set, Dz.w_drop, Dz.w_put, Dz.w_nil, Dz.w_cons, Dz.w_cb, Dz.w_call, Dz.w_tup, Dz.w_lst, Dz.w_cell, Dz.w_for, Dz.w_of, Dz.w_rg, Dz.w_new, Dz.w_newC, Dz.w_lc, Dz.w_join, Dz.w_isS, Dz.w_chain, Dz.w_eand, Dz.w_eor, Dz.w_enot, Dz.w_ltS, Dz.w_leS, Dz.w_is, Dz.w_isnot, Dz.w_inS, Dz.w_rpr, Dz.w_itS, Dz.w_itL, Dz.w_itLs, Dz.w_itT, Dz.w_add, Dz.w_sub, Dz.w_neg, Dz.w_lt, Dz.w_le, Dz.w_gt, Dz.w_ge, Dz.w_int, Dz.w_intb, Dz.w_abs, Dz.w_max, Dz.w_min, Dz.w_lenL, Dz.w_lenT, Dz.w_lenR, Dz.wp_pur, Dz.startE, Dz.w_dtup, Dz.w_dlst, Dz.asDs_nil, Dz.asDs_cons, Dz.w_some, Dz.w_kTup, Dz.w_kLst, Dz.w_addL, Dz.w_addT, Dz.w_sl, Dz.w_oNone, Dz.w_oSome, Dz.w_asI, Dz.w_slL, Dz.w_slT, Dz.w_zp, Dz.w_itZL, Dz.w_itZT, Dz.w_rg3, Dz.w_par, Dz.w_asg, Dz.w_asD, Dz.w_fld, Dz.w_sfd, Dz.w_mk, Dz.w_pro, Dz.w_isI, Dz.w_met, Dz.w_ncb, Dz.w_tupL, Dz.w_tupT, Dz.w_listL, Dz.w_listT, Dz.w_sorted, Dz.w_minI, Dz.w_itA, Dz.w_itAt, Dz.w_itAs, Dz.w_itAz, Dz.w_inT, Dz.w_inL, Dz.w_niT, Dz.w_inD, Dz.w_eqS, Dz.w_neS, Dz.w_eqI, Dz.w_neI, Dz.w_eqB, Dz.w_neB, Dz.w_eqL, Dz.w_neL, Dz.w_eqT, Dz.w_neT, Dz.dunNe_str, Dz.dunNe_bl, Dz.dunNe_int, Dz.dunNe_lst, Dz.dunNe_tup, Dz.dunNe_non, Dz.dunEq_str, Dz.dunEq_bl, Dz.dunEq_int, Dz.dunEq_lst, Dz.dunEq_tup, Dz.dunEq_non, Dz.dunIn_ins, Dz.tBoolX_ins, Dz.w_notB, Dz.w_isB, Dz.wp_bnd, List.map_cons, List.map_nil, List.length_cons, List.length_nil, List.replicate, List.cons_append, List.nil_append, List.append_nil, List.getElem?_cons_zero, List.getElem?_cons_succ, List.set_cons_zero, List.set_cons_succ, Nat.reduceAdd, Nat.reduceSub, Nat.zero_add, Nat.sub_zero, Bool.not_true, Bool.not_false, if_true, if_false, Bool.false_eq_true, reduceIte, decide_eq_true_eq, Option.map_some, Nat.reduceLeDiff]))
  unfold has at q
  by_cases hn : n < p.fst
  · rw [if_pos hn] at q ⊢
    rw [w_fldD (by decide) (by rfl)]
    (try (simp only [Dz.wp_noE, Dz.noE_pur, Dz.w_var, Dz.w_c, Dz.w_op, Dz.w_ix, Dz.w_un, Dz.w_test, Dz.w_asB, Dz.w_not, Dz.w_and, Dz.w_or, Dz.w_if, Dz.w_sif, Dz.w_seq, Dz.after_nx, Dz.after_rt, Dz.w_next, Dz.w_ret, Dz.w_set, Dz.w_drop, Dz.w_put, Dz.w_nil, Dz.w_cons, Dz.w_cb, Dz.w_call, Dz.w_tup, Dz.w_lst, Dz.w_cell, Dz.w_for, Dz.w_of, Dz.w_rg, Dz.w_new, Dz.w_newC, Dz.w_lc, Dz.w_join, Dz.w_isS, Dz.w_chain, Dz.w_eand, Dz.w_eor, Dz.w_enot, Dz.w_ltS, Dz.w_leS, Dz.w_is, Dz.w_isnot, Dz.w_inS, Dz.w_rpr, Dz.w_itS, Dz.w_itL, Dz.w_itLs, Dz.w_itT, Dz.w_add, Dz.w_sub, Dz.w_neg, Dz.w_lt, Dz.w_le, Dz.w_gt, Dz.w_ge, Dz.w_int, Dz.w_intb, Dz.w_abs, Dz.w_max, Dz.w_min, Dz.w_lenL, Dz.w_lenT, Dz.w_lenR, Dz.wp_pur, Dz.startE, Dz.w_dtup, Dz.w_dlst, Dz.asDs_nil, Dz.asDs_cons, Dz.w_some, Dz.w_kTup, Dz.w_kLst, Dz.w_addL, Dz.w_addT, Dz.w_sl, Dz.w_oNone, Dz.w_oSome, Dz.w_asI, Dz.w_slL, Dz.w_slT, Dz.w_zp, Dz.w_itZL, Dz.w_itZT, Dz.w_rg3, Dz.w_par, Dz.w_asg, Dz.w_asD, Dz.w_fld, Dz.w_sfd, Dz.w_mk, Dz.w_pro, Dz.w_isI, Dz.w_met, Dz.w_ncb, Dz.w_tupL, Dz.w_tupT, Dz.w_listL, Dz.w_listT, Dz.w_sorted, Dz.w_minI, Dz.w_itA, Dz.w_itAt, Dz.w_itAs, Dz.w_itAz, Dz.w_inT, Dz.w_inL, Dz.w_niT, Dz.w_inD, Dz.w_eqS, Dz.w_neS, Dz.w_eqI, Dz.w_neI, Dz.w_eqB, Dz.w_neB, Dz.w_eqL, Dz.w_neL, Dz.w_eqT, Dz.w_neT, Dz.dunNe_str, Dz.dunNe_bl, Dz.dunNe_int, Dz.dunNe_lst, Dz.dunNe_tup, Dz.dunNe_non, Dz.dunEq_str, Dz.dunEq_bl, Dz.dunEq_int, Dz.dunEq_lst, Dz.dunEq_tup, Dz.dunEq_non, Dz.dunIn_ins, Dz.tBoolX_ins, Dz.w_notB, Dz.w_isB, Dz.wp_bnd, List.map_cons, List.map_nil, List.length_cons, List.length_nil, List.replicate, List.cons_append, List.nil_append, List.append_nil, List.getElem?_cons_zero, List.getElem?_cons_succ, List.set_cons_zero, List.set_cons_succ, Nat.reduceAdd, Nat.reduceSub, Nat.zero_add, Nat.sub_zero, Bool.not_true, Bool.not_false, if_true, if_false, Bool.false_eq_true, reduceIte, decide_eq_true_eq, Option.map_some, Nat.reduceLeDiff]))
    exact q
  · rw [if_neg hn] at q ⊢
    rw [w_fldD (by decide) (by rfl), w_mod (by omega), w_fldD (by decide) (by rfl)]
    (try (simp only [Dz.wp_noE, Dz.noE_pur, Dz.w_var, Dz.w_c, Dz.w_op, Dz.w_ix, Dz.w_un, Dz.w_test, Dz.w_asB, Dz.w_not, Dz.w_and, Dz.w_or, Dz.w_if, Dz.w_sif, Dz.w_seq, Dz.after_nx, Dz.after_rt, Dz.w_next, Dz.w_ret, Dz.w_set, Dz.w_drop, Dz.w_put, Dz.w_nil, Dz.w_cons, Dz.w_cb, Dz.w_call, Dz.w_tup, Dz.w_lst, Dz.w_cell, Dz.w_for, Dz.w_of, Dz.w_rg, Dz.w_new, Dz.w_newC, Dz.w_lc, Dz.w_join, Dz.w_isS, Dz.w_chain, Dz.w_eand, Dz.w_eor, Dz.w_enot, Dz.w_ltS, Dz.w_leS, Dz.w_is, Dz.w_isnot, Dz.w_inS, Dz.w_rpr, Dz.w_itS, Dz.w_itL, Dz.w_itLs, Dz.w_itT, Dz.w_add, Dz.w_sub, Dz.w_neg, Dz.w_lt, Dz.w_le, Dz.w_gt, Dz.w_ge, Dz.w_int, Dz.w_intb, Dz.w_abs, Dz.w_max, Dz.w_min, Dz.w_lenL, Dz.w_lenT, Dz.w_lenR, Dz.wp_pur, Dz.startE, Dz.w_dtup, Dz.w_dlst, Dz.asDs_nil, Dz.asDs_cons, Dz.w_some, Dz.w_kTup, Dz.w_kLst, Dz.w_addL, Dz.w_addT, Dz.w_sl, Dz.w_oNone, Dz.w_oSome, Dz.w_asI, Dz.w_slL, Dz.w_slT, Dz.w_zp, Dz.w_itZL, Dz.w_itZT, Dz.w_rg3, Dz.w_par, Dz.w_asg, Dz.w_asD, Dz.w_fld, Dz.w_sfd, Dz.w_mk, Dz.w_pro, Dz.w_isI, Dz.w_met, Dz.w_ncb, Dz.w_tupL, Dz.w_tupT, Dz.w_listL, Dz.w_listT, Dz.w_sorted, Dz.w_minI, Dz.w_itA, Dz.w_itAt, Dz.w_itAs, Dz.w_itAz, Dz.w_inT, Dz.w_inL, Dz.w_niT, Dz.w_inD, Dz.w_eqS, Dz.w_neS, Dz.w_eqI, Dz.w_neI, Dz.w_eqB, Dz.w_neB, Dz.w_eqL, Dz.w_neL, Dz.w_eqT, Dz.w_neT, Dz.dunNe_str, Dz.dunNe_bl, Dz.dunNe_int, Dz.dunNe_lst, Dz.dunNe_tup, Dz.dunNe_non, Dz.dunEq_str, Dz.dunEq_bl, Dz.dunEq_int, Dz.dunEq_lst, Dz.dunEq_tup, Dz.dunEq_non, Dz.dunIn_ins, Dz.tBoolX_ins, Dz.w_notB, Dz.w_isB, Dz.wp_bnd, List.map_cons, List.map_nil, List.length_cons, List.length_nil, List.replicate, List.cons_append, List.nil_append, List.append_nil, List.getElem?_cons_zero, List.getElem?_cons_succ, List.set_cons_zero, List.set_cons_succ, Nat.reduceAdd, Nat.reduceSub, Nat.zero_add, Nat.sub_zero, Bool.not_true, Bool.not_false, if_true, if_false, Bool.false_eq_true, reduceIte, decide_eq_true_eq, Option.map_some, Nat.reduceLeDiff]))
    exact q
theorem isInt_t {n : Int} (h0 : -c_TOP < n) (h1 : n < c_TOP) : isInt (.int n) = true := by
  show (decide (-c_TOP < n) && decide (n < c_TOP)) = true
  rw [decide_eq_true h0, decide_eq_true h1]
  rfl
theorem contains_eq {p : Pt} (h : 1 ≤ p.per) {n : Int} (h0 : 0 ≤ n) (h1 : n < c_TOP) : f_Limits___contains__ [.d (insL p), .d (.int n)] = pur (.d (.bl (has p n))) := fn_by fun S Q q => by
  unfold b_Limits___contains__
  (try (simp only [Dz.wp_noE, Dz.noE_pur, Dz.w_var, Dz.w_c, Dz.w_op, Dz.w_ix, Dz.w_un, Dz.w_test, Dz.w_asB, Dz.w_not, Dz.w_and, Dz.w_or, Dz.w_if, Dz.w_sif, Dz.w_seq, Dz.after_nx, Dz.after_rt, Dz.w_next, Dz.w_ret, Dz.w_set, Dz.w_drop, Dz.w_put, Dz.w_nil, Dz.w_cons, Dz.w_cb, Dz.w_call, Dz.w_tup, Dz.w_lst, Dz.w_cell, Dz.w_for, Dz.w_of, Dz.w_rg, Dz.w_new, Dz.w_newC, Dz.w_lc, Dz.w_join, Dz.w_isS, Dz.w_chain, Dz.w_eand, Dz.w_eor, Dz.w_enot, Dz.w_ltS, Dz.w_leS, Dz.w_is, Dz.w_isnot, Dz.w_inS, Dz.w_rpr, Dz.w_itS, Dz.w_itL, Dz.w_itLs, Dz.w_itT, Dz.w_add, Dz.w_sub, Dz.w_neg, Dz.w_lt, Dz.w_le, Dz.w_gt, Dz.w_ge, Dz.w_int, Dz.w_intb, Dz.w_abs, Dz.w_max, Dz.w_min, Dz.w_lenL, Dz.w_lenT, Dz.w_lenR, Dz.wp_pur, Dz.startE, Dz.w_dtup, Dz.w_dlst, Dz.asDs_nil, Dz.asDs_cons, Dz.w_some, Dz.w_kTup, Dz.w_kLst, Dz.w_addL, Dz.w_addT, Dz.w_sl, Dz.w_oNone, Dz.w_oSome, Dz.w_asI, Dz.w_slL, Dz.w_slT, Dz.w_zp, Dz.w_itZL, Dz.w_itZT, Dz.w_rg3, Dz.w_par, Dz.w_asg, Dz.w_asD, Dz.w_fld, Dz.w_sfd, Dz.w_mk, Dz.w_pro, Dz.w_isI, Dz.w_met, Dz.w_ncb, Dz.w_tupL, Dz.w_tupT, Dz.w_listL, Dz.w_listT, Dz.w_sorted, Dz.w_minI, Dz.w_itA, Dz.w_itAt, Dz.w_itAs, Dz.w_itAz, Dz.w_inT, Dz.w_inL, Dz.w_niT, Dz.w_inD, Dz.w_eqS, Dz.w_neS, Dz.w_eqI, Dz.w_neI, Dz.w_eqB, Dz.w_neB, Dz.w_eqL, Dz.w_neL, Dz.w_eqT, Dz.w_neT, Dz.dunNe_str, Dz.dunNe_bl, Dz.dunNe_int, Dz.dunNe_lst, Dz.dunNe_tup, Dz.dunNe_non, Dz.dunEq_str, Dz.dunEq_bl, Dz.dunEq_int, Dz.dunEq_lst, Dz.dunEq_tup, Dz.dunEq_non, Dz.dunIn_ins, Dz.tBoolX_ins, Dz.w_notB, Dz.w_isB, Dz.wp_bnd, List.map_cons, List.map_nil, List.length_cons, List.length_nil, List.replicate, List.cons_append, List.nil_append, List.append_nil, List.getElem?_cons_zero, List.getElem?_cons_succ, List.set_cons_zero, List.set_cons_succ, Nat.reduceAdd, Nat.reduceSub, Nat.zero_add, Nat.sub_zero, Bool.not_true, Bool.not_false, if_true, if_false, Bool.false_eq_true, reduceIte, decide_eq_true_eq, Option.map_some, Nat.reduceLeDiff]))
  rw [is_integer_i, isInt_t (by have : (0 : Int) < c_TOP := by decide
                                omega) h1]
  (try (simp only [Dz.wp_noE, Dz.noE_pur, Dz.w_var, Dz.w_c, Dz.w_op, Dz.w_ix, Dz.w_un, Dz.w_test, Dz.w_asB, Dz.w_not, Dz.w_and, Dz.w_or, Dz.w_if, Dz.w_sif, Dz.w_seq, Dz.after_nx, Dz.after_rt, Dz.w_next, Dz.w_ret, Dz.w_set, Dz.w_drop, Dz.w_put, Dz.w_nil, Dz.w_cons, Dz.w_cb, Dz.w_call, Dz.w_tup, Dz.w_lst, Dz.w_cell, Dz.w_for, Dz.w_of, Dz.w_rg, Dz.w_new, Dz.w_newC, Dz.w_lc, Dz.w_join, Dz.w_isS, Dz.w_chain, Dz.w_eand, Dz.w_eor, Dz.w_enot, Dz.w_ltS, Dz.w_leS, Dz.w_is, Dz.w_isnot, Dz.w_inS, Dz.w_rpr, Dz.w_itS, Dz.w_itL, Dz.w_itLs, Dz.w_itT, Dz.w_add, Dz.w_sub, Dz.w_neg, Dz.w_lt, Dz.w_le, Dz.w_gt, Dz.w_ge, Dz.w_int, Dz.w_intb, Dz.w_abs, Dz.w_max, Dz.w_min, Dz.w_lenL, Dz.w_lenT, Dz.w_lenR, Dz.wp_pur, Dz.startE, Dz.w_dtup, Dz.w_dlst, Dz.asDs_nil, Dz.asDs_cons, Dz.w_some, Dz.w_kTup, Dz.w_kLst, Dz.w_addL, Dz.w_addT, Dz.w_sl, Dz.w_oNone, Dz.w_oSome, Dz.w_asI, Dz.w_slL, Dz.w_slT, Dz.w_zp, Dz.w_itZL, Dz.w_itZT, Dz.w_rg3, Dz.w_par, Dz.w_asg, Dz.w_asD, Dz.w_fld, Dz.w_sfd, Dz.w_mk, Dz.w_pro, Dz.w_isI, Dz.w_met, Dz.w_ncb, Dz.w_tupL, Dz.w_tupT, Dz.w_listL, Dz.w_listT, Dz.w_sorted, Dz.w_minI, Dz.w_itA, Dz.w_itAt, Dz.w_itAs, Dz.w_itAz, Dz.w_inT, Dz.w_inL, Dz.w_niT, Dz.w_inD, Dz.w_eqS, Dz.w_neS, Dz.w_eqI, Dz.w_neI, Dz.w_eqB, Dz.w_neB, Dz.w_eqL, Dz.w_neL, Dz.w_eqT, Dz.w_neT, Dz.dunNe_str, Dz.dunNe_bl, Dz.dunNe_int, Dz.dunNe_lst, Dz.dunNe_tup, Dz.dunNe_non, Dz.dunEq_str, Dz.dunEq_bl, Dz.dunEq_int, Dz.dunEq_lst, Dz.dunEq_tup, Dz.dunEq_non, Dz.dunIn_ins, Dz.tBoolX_ins, Dz.w_notB, Dz.w_isB, Dz.wp_bnd, List.map_cons, List.map_nil, List.length_cons, List.length_nil, List.replicate, List.cons_append, List.nil_append, List.append_nil, List.getElem?_cons_zero, List.getElem?_cons_succ, List.set_cons_zero, List.set_cons_succ, Nat.reduceAdd, Nat.reduceSub, Nat.zero_add, Nat.sub_zero, Bool.not_true, Bool.not_false, if_true, if_false, Bool.false_eq_true, reduceIte, decide_eq_true_eq, Option.map_some, Nat.reduceLeDiff]))
  rw [if_pos h0, has_number_eq h]
  exact wp_pur.mpr q
theorem contains_no {p : Pt} {x : D} (h : f_is_integer [.d x] = pur (.d (.bl false))) : f_Limits___contains__ [.d (insL p), .d x] = pur (.d (.bl false)) := fn_by fun S Q q => by
  unfold b_Limits___contains__
  (try (simp only [Dz.wp_noE, Dz.noE_pur, Dz.w_var, Dz.w_c, Dz.w_op, Dz.w_ix, Dz.w_un, Dz.w_test, Dz.w_asB, Dz.w_not, Dz.w_and, Dz.w_or, Dz.w_if, Dz.w_sif, Dz.w_seq, Dz.after_nx, Dz.after_rt, Dz.w_next, Dz.w_ret, Dz.w_set, Dz.w_drop, Dz.w_put, Dz.w_nil, Dz.w_cons, Dz.w_cb, Dz.w_call, Dz.w_tup, Dz.w_lst, Dz.w_cell, Dz.w_for, Dz.w_of, Dz.w_rg, Dz.w_new, Dz.w_newC, Dz.w_lc, Dz.w_join, Dz.w_isS, Dz.w_chain, Dz.w_eand, Dz.w_eor, Dz.w_enot, Dz.w_ltS, Dz.w_leS, Dz.w_is, Dz.w_isnot, Dz.w_inS, Dz.w_rpr, Dz.w_itS, Dz.w_itL, Dz.w_itLs, Dz.w_itT, Dz.w_add, Dz.w_sub, Dz.w_neg, Dz.w_lt, Dz.w_le, Dz.w_gt, Dz.w_ge, Dz.w_int, Dz.w_intb, Dz.w_abs, Dz.w_max, Dz.w_min, Dz.w_lenL, Dz.w_lenT, Dz.w_lenR, Dz.wp_pur, Dz.startE, Dz.w_dtup, Dz.w_dlst, Dz.asDs_nil, Dz.asDs_cons, Dz.w_some, Dz.w_kTup, Dz.w_kLst, Dz.w_addL, Dz.w_addT, Dz.w_sl, Dz.w_oNone, Dz.w_oSome, Dz.w_asI, Dz.w_slL, Dz.w_slT, Dz.w_zp, Dz.w_itZL, Dz.w_itZT, Dz.w_rg3, Dz.w_par, Dz.w_asg, Dz.w_asD, Dz.w_fld, Dz.w_sfd, Dz.w_mk, Dz.w_pro, Dz.w_isI, Dz.w_met, Dz.w_ncb, Dz.w_tupL, Dz.w_tupT, Dz.w_listL, Dz.w_listT, Dz.w_sorted, Dz.w_minI, Dz.w_itA, Dz.w_itAt, Dz.w_itAs, Dz.w_itAz, Dz.w_inT, Dz.w_inL, Dz.w_niT, Dz.w_inD, Dz.w_eqS, Dz.w_neS, Dz.w_eqI, Dz.w_neI, Dz.w_eqB, Dz.w_neB, Dz.w_eqL, Dz.w_neL, Dz.w_eqT, Dz.w_neT, Dz.dunNe_str, Dz.dunNe_bl, Dz.dunNe_int, Dz.dunNe_lst, Dz.dunNe_tup, Dz.dunNe_non, Dz.dunEq_str, Dz.dunEq_bl, Dz.dunEq_int, Dz.dunEq_lst, Dz.dunEq_tup, Dz.dunEq_non, Dz.dunIn_ins, Dz.tBoolX_ins, Dz.w_notB, Dz.w_isB, Dz.wp_bnd, List.map_cons, List.map_nil, List.length_cons, List.length_nil, List.replicate, List.cons_append, List.nil_append, List.append_nil, List.getElem?_cons_zero, List.getElem?_cons_succ, List.set_cons_zero, List.set_cons_succ, Nat.reduceAdd, Nat.reduceSub, Nat.zero_add, Nat.sub_zero, Bool.not_true, Bool.not_false, if_true, if_false, Bool.false_eq_true, reduceIte, decide_eq_true_eq, Option.map_some, Nat.reduceLeDiff]))
  rw [h]
  (try (simp only [Dz.wp_noE, Dz.noE_pur, Dz.w_var, Dz.w_c, Dz.w_op, Dz.w_ix, Dz.w_un, Dz.w_test, Dz.w_asB, Dz.w_not, Dz.w_and, Dz.w_or, Dz.w_if, Dz.w_sif, Dz.w_seq, Dz.after_nx, Dz.after_rt, Dz.w_next, Dz.w_ret, Dz.w_set, Dz.w_drop, Dz.w_put, Dz.w_nil, Dz.w_cons, Dz.w_cb, Dz.w_call, Dz.w_tup, Dz.w_lst, Dz.w_cell, Dz.w_for, Dz.w_of, Dz.w_rg, Dz.w_new, Dz.w_newC, Dz.w_lc, Dz.w_join, Dz.w_isS, Dz.w_chain, Dz.w_eand, Dz.w_eor, Dz.w_enot, Dz.w_ltS, Dz.w_leS, Dz.w_is, Dz.w_isnot, Dz.w_inS, Dz.w_rpr, Dz.w_itS, Dz.w_itL, Dz.w_itLs, Dz.w_itT, Dz.w_add, Dz.w_sub, Dz.w_neg, Dz.w_lt, Dz.w_le, Dz.w_gt, Dz.w_ge, Dz.w_int, Dz.w_intb, Dz.w_abs, Dz.w_max, Dz.w_min, Dz.w_lenL, Dz.w_lenT, Dz.w_lenR, Dz.wp_pur, Dz.startE, Dz.w_dtup, Dz.w_dlst, Dz.asDs_nil, Dz.asDs_cons, Dz.w_some, Dz.w_kTup, Dz.w_kLst, Dz.w_addL, Dz.w_addT, Dz.w_sl, Dz.w_oNone, Dz.w_oSome, Dz.w_asI, Dz.w_slL, Dz.w_slT, Dz.w_zp, Dz.w_itZL, Dz.w_itZT, Dz.w_rg3, Dz.w_par, Dz.w_asg, Dz.w_asD, Dz.w_fld, Dz.w_sfd, Dz.w_mk, Dz.w_pro, Dz.w_isI, Dz.w_met, Dz.w_ncb, Dz.w_tupL, Dz.w_tupT, Dz.w_listL, Dz.w_listT, Dz.w_sorted, Dz.w_minI, Dz.w_itA, Dz.w_itAt, Dz.w_itAs, Dz.w_itAz, Dz.w_inT, Dz.w_inL, Dz.w_niT, Dz.w_inD, Dz.w_eqS, Dz.w_neS, Dz.w_eqI, Dz.w_neI, Dz.w_eqB, Dz.w_neB, Dz.w_eqL, Dz.w_neL, Dz.w_eqT, Dz.w_neT, Dz.dunNe_str, Dz.dunNe_bl, Dz.dunNe_int, Dz.dunNe_lst, Dz.dunNe_tup, Dz.dunNe_non, Dz.dunEq_str, Dz.dunEq_bl, Dz.dunEq_int, Dz.dunEq_lst, Dz.dunEq_tup, Dz.dunEq_non, Dz.dunIn_ins, Dz.tBoolX_ins, Dz.w_notB, Dz.w_isB, Dz.wp_bnd, List.map_cons, List.map_nil, List.length_cons, List.length_nil, List.replicate, List.cons_append, List.nil_append, List.append_nil, List.getElem?_cons_zero, List.getElem?_cons_succ, List.set_cons_zero, List.set_cons_succ, Nat.reduceAdd, Nat.reduceSub, Nat.zero_add, Nat.sub_zero, Bool.not_true, Bool.not_false, if_true, if_false, Bool.false_eq_true, reduceIte, decide_eq_true_eq, Option.map_some, Nat.reduceLeDiff]))
  exact q
theorem contains_neg {p : Pt} {n : Int} (h0 : n < 0) : f_Limits___contains__ [.d (insL p), .d (.int n)] = pur (.d (.bl false)) := fn_by fun S Q q => by
  unfold b_Limits___contains__
  (try (simp only [Dz.wp_noE, Dz.noE_pur, Dz.w_var, Dz.w_c, Dz.w_op, Dz.w_ix, Dz.w_un, Dz.w_test, Dz.w_asB, Dz.w_not, Dz.w_and, Dz.w_or, Dz.w_if, Dz.w_sif, Dz.w_seq, Dz.after_nx, Dz.after_rt, Dz.w_next, Dz.w_ret, Dz.w_set, Dz.w_drop, Dz.w_put, Dz.w_nil, Dz.w_cons, Dz.w_cb, Dz.w_call, Dz.w_tup, Dz.w_lst, Dz.w_cell, Dz.w_for, Dz.w_of, Dz.w_rg, Dz.w_new, Dz.w_newC, Dz.w_lc, Dz.w_join, Dz.w_isS, Dz.w_chain, Dz.w_eand, Dz.w_eor, Dz.w_enot, Dz.w_ltS, Dz.w_leS, Dz.w_is, Dz.w_isnot, Dz.w_inS, Dz.w_rpr, Dz.w_itS, Dz.w_itL, Dz.w_itLs, Dz.w_itT, Dz.w_add, Dz.w_sub, Dz.w_neg, Dz.w_lt, Dz.w_le, Dz.w_gt, Dz.w_ge, Dz.w_int, Dz.w_intb, Dz.w_abs, Dz.w_max, Dz.w_min, Dz.w_lenL, Dz.w_lenT, Dz.w_lenR, Dz.wp_pur, Dz.startE, Dz.w_dtup, Dz.w_dlst, Dz.asDs_nil, Dz.asDs_cons, Dz.w_some, Dz.w_kTup, Dz.w_kLst, Dz.w_addL, Dz.w_addT, Dz.w_sl, Dz.w_oNone, Dz.w_oSome, Dz.w_asI, Dz.w_slL, Dz.w_slT, Dz.w_zp, Dz.w_itZL, Dz.w_itZT, Dz.w_rg3, Dz.w_par, Dz.w_asg, Dz.w_asD, Dz.w_fld, Dz.w_sfd, Dz.w_mk, Dz.w_pro, Dz.w_isI, Dz.w_met, Dz.w_ncb, Dz.w_tupL, Dz.w_tupT, Dz.w_listL, Dz.w_listT, Dz.w_sorted, Dz.w_minI, Dz.w_itA, Dz.w_itAt, Dz.w_itAs, Dz.w_itAz, Dz.w_inT, Dz.w_inL, Dz.w_niT, Dz.w_inD, Dz.w_eqS, Dz.w_neS, Dz.w_eqI, Dz.w_neI, Dz.w_eqB, Dz.w_neB, Dz.w_eqL, Dz.w_neL, Dz.w_eqT, Dz.w_neT, Dz.dunNe_str, Dz.dunNe_bl, Dz.dunNe_int, Dz.dunNe_lst, Dz.dunNe_tup, Dz.dunNe_non, Dz.dunEq_str, Dz.dunEq_bl, Dz.dunEq_int, Dz.dunEq_lst, Dz.dunEq_tup, Dz.dunEq_non, Dz.dunIn_ins, Dz.tBoolX_ins, Dz.w_notB, Dz.w_isB, Dz.wp_bnd, List.map_cons, List.map_nil, List.length_cons, List.length_nil, List.replicate, List.cons_append, List.nil_append, List.append_nil, List.getElem?_cons_zero, List.getElem?_cons_succ, List.set_cons_zero, List.set_cons_succ, Nat.reduceAdd, Nat.reduceSub, Nat.zero_add, Nat.sub_zero, Bool.not_true, Bool.not_false, if_true, if_false, Bool.false_eq_true, reduceIte, decide_eq_true_eq, Option.map_some, Nat.reduceLeDiff]))
  rw [is_integer_i]
  (try (simp only [Dz.wp_noE, Dz.noE_pur, Dz.w_var, Dz.w_c, Dz.w_op, Dz.w_ix, Dz.w_un, Dz.w_test, Dz.w_asB, Dz.w_not, Dz.w_and, Dz.w_or, Dz.w_if, Dz.w_sif, Dz.w_seq, Dz.after_nx, Dz.after_rt, Dz.w_next, Dz.w_ret, Dz.w_set, Dz.w_drop, Dz.w_put, Dz.w_nil, Dz.w_cons, Dz.w_cb, Dz.w_call, Dz.w_tup, Dz.w_lst, Dz.w_cell, Dz.w_for, Dz.w_of, Dz.w_rg, Dz.w_new, Dz.w_newC, Dz.w_lc, Dz.w_join, Dz.w_isS, Dz.w_chain, Dz.w_eand, Dz.w_eor, Dz.w_enot, Dz.w_ltS, Dz.w_leS, Dz.w_is, Dz.w_isnot, Dz.w_inS, Dz.w_rpr, Dz.w_itS, Dz.w_itL, Dz.w_itLs, Dz.w_itT, Dz.w_add, Dz.w_sub, Dz.w_neg, Dz.w_lt, Dz.w_le, Dz.w_gt, Dz.w_ge, Dz.w_int, Dz.w_intb, Dz.w_abs, Dz.w_max, Dz.w_min, Dz.w_lenL, Dz.w_lenT, Dz.w_lenR, Dz.wp_pur, Dz.startE, Dz.w_dtup, Dz.w_dlst, Dz.asDs_nil, Dz.asDs_cons, Dz.w_some, Dz.w_kTup, Dz.w_kLst, Dz.w_addL, Dz.w_addT, Dz.w_sl, Dz.w_oNone, Dz.w_oSome, Dz.w_asI, Dz.w_slL, Dz.w_slT, Dz.w_zp, Dz.w_itZL, Dz.w_itZT, Dz.w_rg3, Dz.w_par, Dz.w_asg, Dz.w_asD, Dz.w_fld, Dz.w_sfd, Dz.w_mk, Dz.w_pro, Dz.w_isI, Dz.w_met, Dz.w_ncb, Dz.w_tupL, Dz.w_tupT, Dz.w_listL, Dz.w_listT, Dz.w_sorted, Dz.w_minI, Dz.w_itA, Dz.w_itAt, Dz.w_itAs, Dz.w_itAz, Dz.w_inT, Dz.w_inL, Dz.w_niT, Dz.w_inD, Dz.w_eqS, Dz.w_neS, Dz.w_eqI, Dz.w_neI, Dz.w_eqB, Dz.w_neB, Dz.w_eqL, Dz.w_neL, Dz.w_eqT, Dz.w_neT, Dz.dunNe_str, Dz.dunNe_bl, Dz.dunNe_int, Dz.dunNe_lst, Dz.dunNe_tup, Dz.dunNe_non, Dz.dunEq_str, Dz.dunEq_bl, Dz.dunEq_int, Dz.dunEq_lst, Dz.dunEq_tup, Dz.dunEq_non, Dz.dunIn_ins, Dz.tBoolX_ins, Dz.w_notB, Dz.w_isB, Dz.wp_bnd, List.map_cons, List.map_nil, List.length_cons, List.length_nil, List.replicate, List.cons_append, List.nil_append, List.append_nil, List.getElem?_cons_zero, List.getElem?_cons_succ, List.set_cons_zero, List.set_cons_succ, Nat.reduceAdd, Nat.reduceSub, Nat.zero_add, Nat.sub_zero, Bool.not_true, Bool.not_false, if_true, if_false, Bool.false_eq_true, reduceIte, decide_eq_true_eq, Option.map_some, Nat.reduceLeDiff]))
  split
  · rw [if_neg (by omega)]
    exact q
  · exact q
def ptEq (p p' : Pt) : Bool := decide (p.few = p'.few) && (decide (p.fst = p'.fst) && (decide (p.per = p'.per) && decide (p.rst = p'.rst)))
theorem ptEq_iff {p p' : Pt} : ptEq p p' = true ↔ p = p' := by
  unfold ptEq
  simp only [Bool.and_eq_true, decide_eq_true_eq]
  constructor
  · rintro ⟨a, b, c, d⟩
    cases p; cases p'
    simp only at a b c d
    subst a b c d
    rfl
  · rintro rfl
    exact ⟨rfl, rfl, rfl, rfl⟩
theorem isi_L (p : Pt) : bIsiX csL tabL [.d (insL p), .d (.cls "Limits")] = pur (.d (.bl true)) := isi_eq rfl (by decide) rfl (by decide +kernel)
theorem eq_eq (p p' : Pt) : f_Limits___eq__ [.d (insL p), .d (insL p')] = pur (.d (.bl (ptEq p p'))) := fn_by fun S Q q => by
  unfold b_Limits___eq__
  (try (simp only [Dz.wp_noE, Dz.noE_pur, Dz.w_var, Dz.w_c, Dz.w_op, Dz.w_ix, Dz.w_un, Dz.w_test, Dz.w_asB, Dz.w_not, Dz.w_and, Dz.w_or, Dz.w_if, Dz.w_sif, Dz.w_seq, Dz.after_nx, Dz.after_rt, Dz.w_next, Dz.w_ret, Dz.w_set, Dz.w_drop, Dz.w_put, Dz.w_nil, Dz.w_cons, Dz.w_cb, Dz.w_call, Dz.w_tup, Dz.w_lst, Dz.w_cell, Dz.w_for, Dz.w_of, Dz.w_rg, Dz.w_new, Dz.w_newC, Dz.w_lc, Dz.w_join, Dz.w_isS, Dz.w_chain, Dz.w_eand, Dz.w_eor, Dz.w_enot, Dz.w_ltS, Dz.w_leS, Dz.w_is, Dz.w_isnot, Dz.w_inS, Dz.w_rpr, Dz.w_itS, Dz.w_itL, Dz.w_itLs, Dz.w_itT, Dz.w_add, Dz.w_sub, Dz.w_neg, Dz.w_lt, Dz.w_le, Dz.w_gt, Dz.w_ge, Dz.w_int, Dz.w_intb, Dz.w_abs, Dz.w_max, Dz.w_min, Dz.w_lenL, Dz.w_lenT, Dz.w_lenR, Dz.wp_pur, Dz.startE, Dz.w_dtup, Dz.w_dlst, Dz.asDs_nil, Dz.asDs_cons, Dz.w_some, Dz.w_kTup, Dz.w_kLst, Dz.w_addL, Dz.w_addT, Dz.w_sl, Dz.w_oNone, Dz.w_oSome, Dz.w_asI, Dz.w_slL, Dz.w_slT, Dz.w_zp, Dz.w_itZL, Dz.w_itZT, Dz.w_rg3, Dz.w_par, Dz.w_asg, Dz.w_asD, Dz.w_fld, Dz.w_sfd, Dz.w_mk, Dz.w_pro, Dz.w_isI, Dz.w_met, Dz.w_ncb, Dz.w_tupL, Dz.w_tupT, Dz.w_listL, Dz.w_listT, Dz.w_sorted, Dz.w_minI, Dz.w_itA, Dz.w_itAt, Dz.w_itAs, Dz.w_itAz, Dz.w_inT, Dz.w_inL, Dz.w_niT, Dz.w_inD, Dz.w_eqS, Dz.w_neS, Dz.w_eqI, Dz.w_neI, Dz.w_eqB, Dz.w_neB, Dz.w_eqL, Dz.w_neL, Dz.w_eqT, Dz.w_neT, Dz.dunNe_str, Dz.dunNe_bl, Dz.dunNe_int, Dz.dunNe_lst, Dz.dunNe_tup, Dz.dunNe_non, Dz.dunEq_str, Dz.dunEq_bl, Dz.dunEq_int, Dz.dunEq_lst, Dz.dunEq_tup, Dz.dunEq_non, Dz.dunIn_ins, Dz.tBoolX_ins, Dz.w_notB, Dz.w_isB, Dz.wp_bnd, List.map_cons, List.map_nil, List.length_cons, List.length_nil, List.replicate, List.cons_append, List.nil_append, List.append_nil, List.getElem?_cons_zero, List.getElem?_cons_succ, List.set_cons_zero, List.set_cons_succ, Nat.reduceAdd, Nat.reduceSub, Nat.zero_add, Nat.sub_zero, Bool.not_true, Bool.not_false, if_true, if_false, Bool.false_eq_true, reduceIte, decide_eq_true_eq, Option.map_some, Nat.reduceLeDiff]))
  rw [isi_L]
  (try (simp only [Dz.wp_noE, Dz.noE_pur, Dz.w_var, Dz.w_c, Dz.w_op, Dz.w_ix, Dz.w_un, Dz.w_test, Dz.w_asB, Dz.w_not, Dz.w_and, Dz.w_or, Dz.w_if, Dz.w_sif, Dz.w_seq, Dz.after_nx, Dz.after_rt, Dz.w_next, Dz.w_ret, Dz.w_set, Dz.w_drop, Dz.w_put, Dz.w_nil, Dz.w_cons, Dz.w_cb, Dz.w_call, Dz.w_tup, Dz.w_lst, Dz.w_cell, Dz.w_for, Dz.w_of, Dz.w_rg, Dz.w_new, Dz.w_newC, Dz.w_lc, Dz.w_join, Dz.w_isS, Dz.w_chain, Dz.w_eand, Dz.w_eor, Dz.w_enot, Dz.w_ltS, Dz.w_leS, Dz.w_is, Dz.w_isnot, Dz.w_inS, Dz.w_rpr, Dz.w_itS, Dz.w_itL, Dz.w_itLs, Dz.w_itT, Dz.w_add, Dz.w_sub, Dz.w_neg, Dz.w_lt, Dz.w_le, Dz.w_gt, Dz.w_ge, Dz.w_int, Dz.w_intb, Dz.w_abs, Dz.w_max, Dz.w_min, Dz.w_lenL, Dz.w_lenT, Dz.w_lenR, Dz.wp_pur, Dz.startE, Dz.w_dtup, Dz.w_dlst, Dz.asDs_nil, Dz.asDs_cons, Dz.w_some, Dz.w_kTup, Dz.w_kLst, Dz.w_addL, Dz.w_addT, Dz.w_sl, Dz.w_oNone, Dz.w_oSome, Dz.w_asI, Dz.w_slL, Dz.w_slT, Dz.w_zp, Dz.w_itZL, Dz.w_itZT, Dz.w_rg3, Dz.w_par, Dz.w_asg, Dz.w_asD, Dz.w_fld, Dz.w_sfd, Dz.w_mk, Dz.w_pro, Dz.w_isI, Dz.w_met, Dz.w_ncb, Dz.w_tupL, Dz.w_tupT, Dz.w_listL, Dz.w_listT, Dz.w_sorted, Dz.w_minI, Dz.w_itA, Dz.w_itAt, Dz.w_itAs, Dz.w_itAz, Dz.w_inT, Dz.w_inL, Dz.w_niT, Dz.w_inD, Dz.w_eqS, Dz.w_neS, Dz.w_eqI, Dz.w_neI, Dz.w_eqB, Dz.w_neB, Dz.w_eqL, Dz.w_neL, Dz.w_eqT, Dz.w_neT, Dz.dunNe_str, Dz.dunNe_bl, Dz.dunNe_int, Dz.dunNe_lst, Dz.dunNe_tup, Dz.dunNe_non, Dz.dunEq_str, Dz.dunEq_bl, Dz.dunEq_int, Dz.dunEq_lst, Dz.dunEq_tup, Dz.dunEq_non, Dz.dunIn_ins, Dz.tBoolX_ins, Dz.w_notB, Dz.w_isB, Dz.wp_bnd, List.map_cons, List.map_nil, List.length_cons, List.length_nil, List.replicate, List.cons_append, List.nil_append, List.append_nil, List.getElem?_cons_zero, List.getElem?_cons_succ, List.set_cons_zero, List.set_cons_succ, Nat.reduceAdd, Nat.reduceSub, Nat.zero_add, Nat.sub_zero, Bool.not_true, Bool.not_false, if_true, if_false, Bool.false_eq_true, reduceIte, decide_eq_true_eq, Option.map_some, Nat.reduceLeDiff]))
  unfold insL
  rw [w_fldD (by decide) (by rfl), w_fldD (by decide) (by rfl)]
  (try (simp only [Dz.wp_noE, Dz.noE_pur, Dz.w_var, Dz.w_c, Dz.w_op, Dz.w_ix, Dz.w_un, Dz.w_test, Dz.w_asB, Dz.w_not, Dz.w_and, Dz.w_or, Dz.w_if, Dz.w_sif, Dz.w_seq, Dz.after_nx, Dz.after_rt, Dz.w_next, Dz.w_ret, Dz.w_set, Dz.w_drop, Dz.w_put, Dz.w_nil, Dz.w_cons, Dz.w_cb, Dz.w_call, Dz.w_tup, Dz.w_lst, Dz.w_cell, Dz.w_for, Dz.w_of, Dz.w_rg, Dz.w_new, Dz.w_newC, Dz.w_lc, Dz.w_join, Dz.w_isS, Dz.w_chain, Dz.w_eand, Dz.w_eor, Dz.w_enot, Dz.w_ltS, Dz.w_leS, Dz.w_is, Dz.w_isnot, Dz.w_inS, Dz.w_rpr, Dz.w_itS, Dz.w_itL, Dz.w_itLs, Dz.w_itT, Dz.w_add, Dz.w_sub, Dz.w_neg, Dz.w_lt, Dz.w_le, Dz.w_gt, Dz.w_ge, Dz.w_int, Dz.w_intb, Dz.w_abs, Dz.w_max, Dz.w_min, Dz.w_lenL, Dz.w_lenT, Dz.w_lenR, Dz.wp_pur, Dz.startE, Dz.w_dtup, Dz.w_dlst, Dz.asDs_nil, Dz.asDs_cons, Dz.w_some, Dz.w_kTup, Dz.w_kLst, Dz.w_addL, Dz.w_addT, Dz.w_sl, Dz.w_oNone, Dz.w_oSome, Dz.w_asI, Dz.w_slL, Dz.w_slT, Dz.w_zp, Dz.w_itZL, Dz.w_itZT, Dz.w_rg3, Dz.w_par, Dz.w_asg, Dz.w_asD, Dz.w_fld, Dz.w_sfd, Dz.w_mk, Dz.w_pro, Dz.w_isI, Dz.w_met, Dz.w_ncb, Dz.w_tupL, Dz.w_tupT, Dz.w_listL, Dz.w_listT, Dz.w_sorted, Dz.w_minI, Dz.w_itA, Dz.w_itAt, Dz.w_itAs, Dz.w_itAz, Dz.w_inT, Dz.w_inL, Dz.w_niT, Dz.w_inD, Dz.w_eqS, Dz.w_neS, Dz.w_eqI, Dz.w_neI, Dz.w_eqB, Dz.w_neB, Dz.w_eqL, Dz.w_neL, Dz.w_eqT, Dz.w_neT, Dz.dunNe_str, Dz.dunNe_bl, Dz.dunNe_int, Dz.dunNe_lst, Dz.dunNe_tup, Dz.dunNe_non, Dz.dunEq_str, Dz.dunEq_bl, Dz.dunEq_int, Dz.dunEq_lst, Dz.dunEq_tup, Dz.dunEq_non, Dz.dunIn_ins, Dz.tBoolX_ins, Dz.w_notB, Dz.w_isB, Dz.wp_bnd, List.map_cons, List.map_nil, List.length_cons, List.length_nil, List.replicate, List.cons_append, List.nil_append, List.append_nil, List.getElem?_cons_zero, List.getElem?_cons_succ, List.set_cons_zero, List.set_cons_succ, Nat.reduceAdd, Nat.reduceSub, Nat.zero_add, Nat.sub_zero, Bool.not_true, Bool.not_false, if_true, if_false, Bool.false_eq_true, reduceIte, decide_eq_true_eq, Option.map_some, Nat.reduceLeDiff]))
  unfold ptEq at q
  by_cases h1 : p.few = p'.few
  · rw [decide_eq_true h1, Bool.true_and] at q
    rw [if_pos h1, w_fldD (by decide) (by rfl), w_fldD (by decide) (by rfl)]
    (try (simp only [Dz.wp_noE, Dz.noE_pur, Dz.w_var, Dz.w_c, Dz.w_op, Dz.w_ix, Dz.w_un, Dz.w_test, Dz.w_asB, Dz.w_not, Dz.w_and, Dz.w_or, Dz.w_if, Dz.w_sif, Dz.w_seq, Dz.after_nx, Dz.after_rt, Dz.w_next, Dz.w_ret, Dz.w_set, Dz.w_drop, Dz.w_put, Dz.w_nil, Dz.w_cons, Dz.w_cb, Dz.w_call, Dz.w_tup, Dz.w_lst, Dz.w_cell, Dz.w_for, Dz.w_of, Dz.w_rg, Dz.w_new, Dz.w_newC, Dz.w_lc, Dz.w_join, Dz.w_isS, Dz.w_chain, Dz.w_eand, Dz.w_eor, Dz.w_enot, Dz.w_ltS, Dz.w_leS, Dz.w_is, Dz.w_isnot, Dz.w_inS, Dz.w_rpr, Dz.w_itS, Dz.w_itL, Dz.w_itLs, Dz.w_itT, Dz.w_add, Dz.w_sub, Dz.w_neg, Dz.w_lt, Dz.w_le, Dz.w_gt, Dz.w_ge, Dz.w_int, Dz.w_intb, Dz.w_abs, Dz.w_max, Dz.w_min, Dz.w_lenL, Dz.w_lenT, Dz.w_lenR, Dz.wp_pur, Dz.startE, Dz.w_dtup, Dz.w_dlst, Dz.asDs_nil, Dz.asDs_cons, Dz.w_some, Dz.w_kTup, Dz.w_kLst, Dz.w_addL, Dz.w_addT, Dz.w_sl, Dz.w_oNone, Dz.w_oSome, Dz.w_asI, Dz.w_slL, Dz.w_slT, Dz.w_zp, Dz.w_itZL, Dz.w_itZT, Dz.w_rg3, Dz.w_par, Dz.w_asg, Dz.w_asD, Dz.w_fld, Dz.w_sfd, Dz.w_mk, Dz.w_pro, Dz.w_isI, Dz.w_met, Dz.w_ncb, Dz.w_tupL, Dz.w_tupT, Dz.w_listL, Dz.w_listT, Dz.w_sorted, Dz.w_minI, Dz.w_itA, Dz.w_itAt, Dz.w_itAs, Dz.w_itAz, Dz.w_inT, Dz.w_inL, Dz.w_niT, Dz.w_inD, Dz.w_eqS, Dz.w_neS, Dz.w_eqI, Dz.w_neI, Dz.w_eqB, Dz.w_neB, Dz.w_eqL, Dz.w_neL, Dz.w_eqT, Dz.w_neT, Dz.dunNe_str, Dz.dunNe_bl, Dz.dunNe_int, Dz.dunNe_lst, Dz.dunNe_tup, Dz.dunNe_non, Dz.dunEq_str, Dz.dunEq_bl, Dz.dunEq_int, Dz.dunEq_lst, Dz.dunEq_tup, Dz.dunEq_non, Dz.dunIn_ins, Dz.tBoolX_ins, Dz.w_notB, Dz.w_isB, Dz.wp_bnd, List.map_cons, List.map_nil, List.length_cons, List.length_nil, List.replicate, List.cons_append, List.nil_append, List.append_nil, List.getElem?_cons_zero, List.getElem?_cons_succ, List.set_cons_zero, List.set_cons_succ, Nat.reduceAdd, Nat.reduceSub, Nat.zero_add, Nat.sub_zero, Bool.not_true, Bool.not_false, if_true, if_false, Bool.false_eq_true, reduceIte, decide_eq_true_eq, Option.map_some, Nat.reduceLeDiff]))
    by_cases h2 : p.fst = p'.fst
    · rw [decide_eq_true h2, Bool.true_and] at q
      rw [if_pos (by simpa using h2), w_fldD (by decide) (by rfl), w_fldD (by decide) (by rfl)]
      (try (simp only [Dz.wp_noE, Dz.noE_pur, Dz.w_var, Dz.w_c, Dz.w_op, Dz.w_ix, Dz.w_un, Dz.w_test, Dz.w_asB, Dz.w_not, Dz.w_and, Dz.w_or, Dz.w_if, Dz.w_sif, Dz.w_seq, Dz.after_nx, Dz.after_rt, Dz.w_next, Dz.w_ret, Dz.w_set, Dz.w_drop, Dz.w_put, Dz.w_nil, Dz.w_cons, Dz.w_cb, Dz.w_call, Dz.w_tup, Dz.w_lst, Dz.w_cell, Dz.w_for, Dz.w_of, Dz.w_rg, Dz.w_new, Dz.w_newC, Dz.w_lc, Dz.w_join, Dz.w_isS, Dz.w_chain, Dz.w_eand, Dz.w_eor, Dz.w_enot, Dz.w_ltS, Dz.w_leS, Dz.w_is, Dz.w_isnot, Dz.w_inS, Dz.w_rpr, Dz.w_itS, Dz.w_itL, Dz.w_itLs, Dz.w_itT, Dz.w_add, Dz.w_sub, Dz.w_neg, Dz.w_lt, Dz.w_le, Dz.w_gt, Dz.w_ge, Dz.w_int, Dz.w_intb, Dz.w_abs, Dz.w_max, Dz.w_min, Dz.w_lenL, Dz.w_lenT, Dz.w_lenR, Dz.wp_pur, Dz.startE, Dz.w_dtup, Dz.w_dlst, Dz.asDs_nil, Dz.asDs_cons, Dz.w_some, Dz.w_kTup, Dz.w_kLst, Dz.w_addL, Dz.w_addT, Dz.w_sl, Dz.w_oNone, Dz.w_oSome, Dz.w_asI, Dz.w_slL, Dz.w_slT, Dz.w_zp, Dz.w_itZL, Dz.w_itZT, Dz.w_rg3, Dz.w_par, Dz.w_asg, Dz.w_asD, Dz.w_fld, Dz.w_sfd, Dz.w_mk, Dz.w_pro, Dz.w_isI, Dz.w_met, Dz.w_ncb, Dz.w_tupL, Dz.w_tupT, Dz.w_listL, Dz.w_listT, Dz.w_sorted, Dz.w_minI, Dz.w_itA, Dz.w_itAt, Dz.w_itAs, Dz.w_itAz, Dz.w_inT, Dz.w_inL, Dz.w_niT, Dz.w_inD, Dz.w_eqS, Dz.w_neS, Dz.w_eqI, Dz.w_neI, Dz.w_eqB, Dz.w_neB, Dz.w_eqL, Dz.w_neL, Dz.w_eqT, Dz.w_neT, Dz.dunNe_str, Dz.dunNe_bl, Dz.dunNe_int, Dz.dunNe_lst, Dz.dunNe_tup, Dz.dunNe_non, Dz.dunEq_str, Dz.dunEq_bl, Dz.dunEq_int, Dz.dunEq_lst, Dz.dunEq_tup, Dz.dunEq_non, Dz.dunIn_ins, Dz.tBoolX_ins, Dz.w_notB, Dz.w_isB, Dz.wp_bnd, List.map_cons, List.map_nil, List.length_cons, List.length_nil, List.replicate, List.cons_append, List.nil_append, List.append_nil, List.getElem?_cons_zero, List.getElem?_cons_succ, List.set_cons_zero, List.set_cons_succ, Nat.reduceAdd, Nat.reduceSub, Nat.zero_add, Nat.sub_zero, Bool.not_true, Bool.not_false, if_true, if_false, Bool.false_eq_true, reduceIte, decide_eq_true_eq, Option.map_some, Nat.reduceLeDiff]))
      by_cases h3 : p.per = p'.per
      · rw [decide_eq_true h3, Bool.true_and] at q
        rw [if_pos (by simpa using h3), w_fldD (by decide) (by rfl), w_fldD (by decide) (by rfl)]
        (try (simp only [Dz.wp_noE, Dz.noE_pur, Dz.w_var, Dz.w_c, Dz.w_op, Dz.w_ix, Dz.w_un, Dz.w_test, Dz.w_asB, Dz.w_not, Dz.w_and, Dz.w_or, Dz.w_if, Dz.w_sif, Dz.w_seq, Dz.after_nx, Dz.after_rt, Dz.w_next, Dz.w_ret, Dz.w_set, Dz.w_drop, Dz.w_put, Dz.w_nil, Dz.w_cons, Dz.w_cb, Dz.w_call, Dz.w_tup, Dz.w_lst, Dz.w_cell, Dz.w_for, Dz.w_of, Dz.w_rg, Dz.w_new, Dz.w_newC, Dz.w_lc, Dz.w_join, Dz.w_isS, Dz.w_chain, Dz.w_eand, Dz.w_eor, Dz.w_enot, Dz.w_ltS, Dz.w_leS, Dz.w_is, Dz.w_isnot, Dz.w_inS, Dz.w_rpr, Dz.w_itS, Dz.w_itL, Dz.w_itLs, Dz.w_itT, Dz.w_add, Dz.w_sub, Dz.w_neg, Dz.w_lt, Dz.w_le, Dz.w_gt, Dz.w_ge, Dz.w_int, Dz.w_intb, Dz.w_abs, Dz.w_max, Dz.w_min, Dz.w_lenL, Dz.w_lenT, Dz.w_lenR, Dz.wp_pur, Dz.startE, Dz.w_dtup, Dz.w_dlst, Dz.asDs_nil, Dz.asDs_cons, Dz.w_some, Dz.w_kTup, Dz.w_kLst, Dz.w_addL, Dz.w_addT, Dz.w_sl, Dz.w_oNone, Dz.w_oSome, Dz.w_asI, Dz.w_slL, Dz.w_slT, Dz.w_zp, Dz.w_itZL, Dz.w_itZT, Dz.w_rg3, Dz.w_par, Dz.w_asg, Dz.w_asD, Dz.w_fld, Dz.w_sfd, Dz.w_mk, Dz.w_pro, Dz.w_isI, Dz.w_met, Dz.w_ncb, Dz.w_tupL, Dz.w_tupT, Dz.w_listL, Dz.w_listT, Dz.w_sorted, Dz.w_minI, Dz.w_itA, Dz.w_itAt, Dz.w_itAs, Dz.w_itAz, Dz.w_inT, Dz.w_inL, Dz.w_niT, Dz.w_inD, Dz.w_eqS, Dz.w_neS, Dz.w_eqI, Dz.w_neI, Dz.w_eqB, Dz.w_neB, Dz.w_eqL, Dz.w_neL, Dz.w_eqT, Dz.w_neT, Dz.dunNe_str, Dz.dunNe_bl, Dz.dunNe_int, Dz.dunNe_lst, Dz.dunNe_tup, Dz.dunNe_non, Dz.dunEq_str, Dz.dunEq_bl, Dz.dunEq_int, Dz.dunEq_lst, Dz.dunEq_tup, Dz.dunEq_non, Dz.dunIn_ins, Dz.tBoolX_ins, Dz.w_notB, Dz.w_isB, Dz.wp_bnd, List.map_cons, List.map_nil, List.length_cons, List.length_nil, List.replicate, List.cons_append, List.nil_append, List.append_nil, List.getElem?_cons_zero, List.getElem?_cons_succ, List.set_cons_zero, List.set_cons_succ, Nat.reduceAdd, Nat.reduceSub, Nat.zero_add, Nat.sub_zero, Bool.not_true, Bool.not_false, if_true, if_false, Bool.false_eq_true, reduceIte, decide_eq_true_eq, Option.map_some, Nat.reduceLeDiff]))
        exact q
      · rw [decide_eq_false h3, Bool.false_and] at q
        rw [if_neg (by simpa using h3)]
        exact q
    · rw [decide_eq_false h2, Bool.false_and] at q
      rw [if_neg (by simpa using h2)]
      exact q
  · rw [decide_eq_false h1, Bool.false_and] at q
    rw [if_neg h1]
    exact q
theorem eq_tup (p : Pt) (ds : List D) : f_Limits___eq__ [.d (insL p), .d (.tup ds)] = pur (.d (.bl false)) := fn_by fun S Q q => by
  unfold b_Limits___eq__
  (try (simp only [Dz.wp_noE, Dz.noE_pur, Dz.w_var, Dz.w_c, Dz.w_op, Dz.w_ix, Dz.w_un, Dz.w_test, Dz.w_asB, Dz.w_not, Dz.w_and, Dz.w_or, Dz.w_if, Dz.w_sif, Dz.w_seq, Dz.after_nx, Dz.after_rt, Dz.w_next, Dz.w_ret, Dz.w_set, Dz.w_drop, Dz.w_put, Dz.w_nil, Dz.w_cons, Dz.w_cb, Dz.w_call, Dz.w_tup, Dz.w_lst, Dz.w_cell, Dz.w_for, Dz.w_of, Dz.w_rg, Dz.w_new, Dz.w_newC, Dz.w_lc, Dz.w_join, Dz.w_isS, Dz.w_chain, Dz.w_eand, Dz.w_eor, Dz.w_enot, Dz.w_ltS, Dz.w_leS, Dz.w_is, Dz.w_isnot, Dz.w_inS, Dz.w_rpr, Dz.w_itS, Dz.w_itL, Dz.w_itLs, Dz.w_itT, Dz.w_add, Dz.w_sub, Dz.w_neg, Dz.w_lt, Dz.w_le, Dz.w_gt, Dz.w_ge, Dz.w_int, Dz.w_intb, Dz.w_abs, Dz.w_max, Dz.w_min, Dz.w_lenL, Dz.w_lenT, Dz.w_lenR, Dz.wp_pur, Dz.startE, Dz.w_dtup, Dz.w_dlst, Dz.asDs_nil, Dz.asDs_cons, Dz.w_some, Dz.w_kTup, Dz.w_kLst, Dz.w_addL, Dz.w_addT, Dz.w_sl, Dz.w_oNone, Dz.w_oSome, Dz.w_asI, Dz.w_slL, Dz.w_slT, Dz.w_zp, Dz.w_itZL, Dz.w_itZT, Dz.w_rg3, Dz.w_par, Dz.w_asg, Dz.w_asD, Dz.w_fld, Dz.w_sfd, Dz.w_mk, Dz.w_pro, Dz.w_isI, Dz.w_met, Dz.w_ncb, Dz.w_tupL, Dz.w_tupT, Dz.w_listL, Dz.w_listT, Dz.w_sorted, Dz.w_minI, Dz.w_itA, Dz.w_itAt, Dz.w_itAs, Dz.w_itAz, Dz.w_inT, Dz.w_inL, Dz.w_niT, Dz.w_inD, Dz.w_eqS, Dz.w_neS, Dz.w_eqI, Dz.w_neI, Dz.w_eqB, Dz.w_neB, Dz.w_eqL, Dz.w_neL, Dz.w_eqT, Dz.w_neT, Dz.dunNe_str, Dz.dunNe_bl, Dz.dunNe_int, Dz.dunNe_lst, Dz.dunNe_tup, Dz.dunNe_non, Dz.dunEq_str, Dz.dunEq_bl, Dz.dunEq_int, Dz.dunEq_lst, Dz.dunEq_tup, Dz.dunEq_non, Dz.dunIn_ins, Dz.tBoolX_ins, Dz.w_notB, Dz.w_isB, Dz.wp_bnd, List.map_cons, List.map_nil, List.length_cons, List.length_nil, List.replicate, List.cons_append, List.nil_append, List.append_nil, List.getElem?_cons_zero, List.getElem?_cons_succ, List.set_cons_zero, List.set_cons_succ, Nat.reduceAdd, Nat.reduceSub, Nat.zero_add, Nat.sub_zero, Bool.not_true, Bool.not_false, if_true, if_false, Bool.false_eq_true, reduceIte, decide_eq_true_eq, Option.map_some, Nat.reduceLeDiff]))
  rw [isi_eq (k := false) (x := .tup ds) (y := .cls "Limits") rfl rfl rfl (by decide +kernel)]
  (try (simp only [Dz.wp_noE, Dz.noE_pur, Dz.w_var, Dz.w_c, Dz.w_op, Dz.w_ix, Dz.w_un, Dz.w_test, Dz.w_asB, Dz.w_not, Dz.w_and, Dz.w_or, Dz.w_if, Dz.w_sif, Dz.w_seq, Dz.after_nx, Dz.after_rt, Dz.w_next, Dz.w_ret, Dz.w_set, Dz.w_drop, Dz.w_put, Dz.w_nil, Dz.w_cons, Dz.w_cb, Dz.w_call, Dz.w_tup, Dz.w_lst, Dz.w_cell, Dz.w_for, Dz.w_of, Dz.w_rg, Dz.w_new, Dz.w_newC, Dz.w_lc, Dz.w_join, Dz.w_isS, Dz.w_chain, Dz.w_eand, Dz.w_eor, Dz.w_enot, Dz.w_ltS, Dz.w_leS, Dz.w_is, Dz.w_isnot, Dz.w_inS, Dz.w_rpr, Dz.w_itS, Dz.w_itL, Dz.w_itLs, Dz.w_itT, Dz.w_add, Dz.w_sub, Dz.w_neg, Dz.w_lt, Dz.w_le, Dz.w_gt, Dz.w_ge, Dz.w_int, Dz.w_intb, Dz.w_abs, Dz.w_max, Dz.w_min, Dz.w_lenL, Dz.w_lenT, Dz.w_lenR, Dz.wp_pur, Dz.startE, Dz.w_dtup, Dz.w_dlst, Dz.asDs_nil, Dz.asDs_cons, Dz.w_some, Dz.w_kTup, Dz.w_kLst, Dz.w_addL, Dz.w_addT, Dz.w_sl, Dz.w_oNone, Dz.w_oSome, Dz.w_asI, Dz.w_slL, Dz.w_slT, Dz.w_zp, Dz.w_itZL, Dz.w_itZT, Dz.w_rg3, Dz.w_par, Dz.w_asg, Dz.w_asD, Dz.w_fld, Dz.w_sfd, Dz.w_mk, Dz.w_pro, Dz.w_isI, Dz.w_met, Dz.w_ncb, Dz.w_tupL, Dz.w_tupT, Dz.w_listL, Dz.w_listT, Dz.w_sorted, Dz.w_minI, Dz.w_itA, Dz.w_itAt, Dz.w_itAs, Dz.w_itAz, Dz.w_inT, Dz.w_inL, Dz.w_niT, Dz.w_inD, Dz.w_eqS, Dz.w_neS, Dz.w_eqI, Dz.w_neI, Dz.w_eqB, Dz.w_neB, Dz.w_eqL, Dz.w_neL, Dz.w_eqT, Dz.w_neT, Dz.dunNe_str, Dz.dunNe_bl, Dz.dunNe_int, Dz.dunNe_lst, Dz.dunNe_tup, Dz.dunNe_non, Dz.dunEq_str, Dz.dunEq_bl, Dz.dunEq_int, Dz.dunEq_lst, Dz.dunEq_tup, Dz.dunEq_non, Dz.dunIn_ins, Dz.tBoolX_ins, Dz.w_notB, Dz.w_isB, Dz.wp_bnd, List.map_cons, List.map_nil, List.length_cons, List.length_nil, List.replicate, List.cons_append, List.nil_append, List.append_nil, List.getElem?_cons_zero, List.getElem?_cons_succ, List.set_cons_zero, List.set_cons_succ, Nat.reduceAdd, Nat.reduceSub, Nat.zero_add, Nat.sub_zero, Bool.not_true, Bool.not_false, if_true, if_false, Bool.false_eq_true, reduceIte, decide_eq_true_eq, Option.map_some, Nat.reduceLeDiff]))
  exact q
/-! ### the law's own -/
def prtD (p : Pt) : D := .lst [.tup (p.few.map D.int), .int p.fst, .int p.per, .tup (p.rst.map D.int)]
theorem law_has_eq {p : Pt} (h : 1 ≤ p.per) (n : Int) : f__law_has [.d (prtD p), .d (.int n)] = pur (.d (.bl (has p n))) := fn_by fun S Q q => by
  unfold b__law_has prtD
  (try (simp only [Dz.wp_noE, Dz.noE_pur, Dz.w_var, Dz.w_c, Dz.w_op, Dz.w_ix, Dz.w_un, Dz.w_test, Dz.w_asB, Dz.w_not, Dz.w_and, Dz.w_or, Dz.w_if, Dz.w_sif, Dz.w_seq, Dz.after_nx, Dz.after_rt, Dz.w_next, Dz.w_ret, Dz.w_set, Dz.w_drop, Dz.w_put, Dz.w_nil, Dz.w_cons, Dz.w_cb, Dz.w_call, Dz.w_tup, Dz.w_lst, Dz.w_cell, Dz.w_for, Dz.w_of, Dz.w_rg, Dz.w_new, Dz.w_newC, Dz.w_lc, Dz.w_join, Dz.w_isS, Dz.w_chain, Dz.w_eand, Dz.w_eor, Dz.w_enot, Dz.w_ltS, Dz.w_leS, Dz.w_is, Dz.w_isnot, Dz.w_inS, Dz.w_rpr, Dz.w_itS, Dz.w_itL, Dz.w_itLs, Dz.w_itT, Dz.w_add, Dz.w_sub, Dz.w_neg, Dz.w_lt, Dz.w_le, Dz.w_gt, Dz.w_ge, Dz.w_int, Dz.w_intb, Dz.w_abs, Dz.w_max, Dz.w_min, Dz.w_lenL, Dz.w_lenT, Dz.w_lenR, Dz.wp_pur, Dz.startE, Dz.w_dtup, Dz.w_dlst, Dz.asDs_nil, Dz.asDs_cons, Dz.w_some, Dz.w_kTup, Dz.w_kLst, Dz.w_addL, Dz.w_addT, Dz.w_sl, Dz.w_oNone, Dz.w_oSome, Dz.w_asI, Dz.w_slL, Dz.w_slT, Dz.w_zp, Dz.w_itZL, Dz.w_itZT, Dz.w_rg3, Dz.w_par, Dz.w_asg, Dz.w_asD, Dz.w_fld, Dz.w_sfd, Dz.w_mk, Dz.w_pro, Dz.w_isI, Dz.w_met, Dz.w_ncb, Dz.w_tupL, Dz.w_tupT, Dz.w_listL, Dz.w_listT, Dz.w_sorted, Dz.w_minI, Dz.w_itA, Dz.w_itAt, Dz.w_itAs, Dz.w_itAz, Dz.w_inT, Dz.w_inL, Dz.w_niT, Dz.w_inD, Dz.w_eqS, Dz.w_neS, Dz.w_eqI, Dz.w_neI, Dz.w_eqB, Dz.w_neB, Dz.w_eqL, Dz.w_neL, Dz.w_eqT, Dz.w_neT, Dz.dunNe_str, Dz.dunNe_bl, Dz.dunNe_int, Dz.dunNe_lst, Dz.dunNe_tup, Dz.dunNe_non, Dz.dunEq_str, Dz.dunEq_bl, Dz.dunEq_int, Dz.dunEq_lst, Dz.dunEq_tup, Dz.dunEq_non, Dz.dunIn_ins, Dz.tBoolX_ins, Dz.w_notB, Dz.w_isB, Dz.wp_bnd, List.map_cons, List.map_nil, List.length_cons, List.length_nil, List.replicate, List.cons_append, List.nil_append, List.append_nil, List.getElem?_cons_zero, List.getElem?_cons_succ, List.set_cons_zero, List.set_cons_succ, Nat.reduceAdd, Nat.reduceSub, Nat.zero_add, Nat.sub_zero, Bool.not_true, Bool.not_false, if_true, if_false, Bool.false_eq_true, reduceIte, decide_eq_true_eq, Option.map_some, Nat.reduceLeDiff]))
  rw [show (.int 1 : D) = .int ((1 : Nat) : Int) from rfl, w_ixL (i := 1) rfl]
  (try (simp only [Dz.wp_noE, Dz.noE_pur, Dz.w_var, Dz.w_c, Dz.w_op, Dz.w_ix, Dz.w_un, Dz.w_test, Dz.w_asB, Dz.w_not, Dz.w_and, Dz.w_or, Dz.w_if, Dz.w_sif, Dz.w_seq, Dz.after_nx, Dz.after_rt, Dz.w_next, Dz.w_ret, Dz.w_set, Dz.w_drop, Dz.w_put, Dz.w_nil, Dz.w_cons, Dz.w_cb, Dz.w_call, Dz.w_tup, Dz.w_lst, Dz.w_cell, Dz.w_for, Dz.w_of, Dz.w_rg, Dz.w_new, Dz.w_newC, Dz.w_lc, Dz.w_join, Dz.w_isS, Dz.w_chain, Dz.w_eand, Dz.w_eor, Dz.w_enot, Dz.w_ltS, Dz.w_leS, Dz.w_is, Dz.w_isnot, Dz.w_inS, Dz.w_rpr, Dz.w_itS, Dz.w_itL, Dz.w_itLs, Dz.w_itT, Dz.w_add, Dz.w_sub, Dz.w_neg, Dz.w_lt, Dz.w_le, Dz.w_gt, Dz.w_ge, Dz.w_int, Dz.w_intb, Dz.w_abs, Dz.w_max, Dz.w_min, Dz.w_lenL, Dz.w_lenT, Dz.w_lenR, Dz.wp_pur, Dz.startE, Dz.w_dtup, Dz.w_dlst, Dz.asDs_nil, Dz.asDs_cons, Dz.w_some, Dz.w_kTup, Dz.w_kLst, Dz.w_addL, Dz.w_addT, Dz.w_sl, Dz.w_oNone, Dz.w_oSome, Dz.w_asI, Dz.w_slL, Dz.w_slT, Dz.w_zp, Dz.w_itZL, Dz.w_itZT, Dz.w_rg3, Dz.w_par, Dz.w_asg, Dz.w_asD, Dz.w_fld, Dz.w_sfd, Dz.w_mk, Dz.w_pro, Dz.w_isI, Dz.w_met, Dz.w_ncb, Dz.w_tupL, Dz.w_tupT, Dz.w_listL, Dz.w_listT, Dz.w_sorted, Dz.w_minI, Dz.w_itA, Dz.w_itAt, Dz.w_itAs, Dz.w_itAz, Dz.w_inT, Dz.w_inL, Dz.w_niT, Dz.w_inD, Dz.w_eqS, Dz.w_neS, Dz.w_eqI, Dz.w_neI, Dz.w_eqB, Dz.w_neB, Dz.w_eqL, Dz.w_neL, Dz.w_eqT, Dz.w_neT, Dz.dunNe_str, Dz.dunNe_bl, Dz.dunNe_int, Dz.dunNe_lst, Dz.dunNe_tup, Dz.dunNe_non, Dz.dunEq_str, Dz.dunEq_bl, Dz.dunEq_int, Dz.dunEq_lst, Dz.dunEq_tup, Dz.dunEq_non, Dz.dunIn_ins, Dz.tBoolX_ins, Dz.w_notB, Dz.w_isB, Dz.wp_bnd, List.map_cons, List.map_nil, List.length_cons, List.length_nil, List.replicate, List.cons_append, List.nil_append, List.append_nil, List.getElem?_cons_zero, List.getElem?_cons_succ, List.set_cons_zero, List.set_cons_succ, Nat.reduceAdd, Nat.reduceSub, Nat.zero_add, Nat.sub_zero, Bool.not_true, Bool.not_false, if_true, if_false, Bool.false_eq_true, reduceIte, decide_eq_true_eq, Option.map_some, Nat.reduceLeDiff]))
  unfold has at q
  by_cases hn : n < p.fst
  · rw [if_pos hn] at q ⊢
    rw [show (.int 0 : D) = .int ((0 : Nat) : Int) from rfl, w_ixL (i := 0) rfl]
    (try (simp only [Dz.wp_noE, Dz.noE_pur, Dz.w_var, Dz.w_c, Dz.w_op, Dz.w_ix, Dz.w_un, Dz.w_test, Dz.w_asB, Dz.w_not, Dz.w_and, Dz.w_or, Dz.w_if, Dz.w_sif, Dz.w_seq, Dz.after_nx, Dz.after_rt, Dz.w_next, Dz.w_ret, Dz.w_set, Dz.w_drop, Dz.w_put, Dz.w_nil, Dz.w_cons, Dz.w_cb, Dz.w_call, Dz.w_tup, Dz.w_lst, Dz.w_cell, Dz.w_for, Dz.w_of, Dz.w_rg, Dz.w_new, Dz.w_newC, Dz.w_lc, Dz.w_join, Dz.w_isS, Dz.w_chain, Dz.w_eand, Dz.w_eor, Dz.w_enot, Dz.w_ltS, Dz.w_leS, Dz.w_is, Dz.w_isnot, Dz.w_inS, Dz.w_rpr, Dz.w_itS, Dz.w_itL, Dz.w_itLs, Dz.w_itT, Dz.w_add, Dz.w_sub, Dz.w_neg, Dz.w_lt, Dz.w_le, Dz.w_gt, Dz.w_ge, Dz.w_int, Dz.w_intb, Dz.w_abs, Dz.w_max, Dz.w_min, Dz.w_lenL, Dz.w_lenT, Dz.w_lenR, Dz.wp_pur, Dz.startE, Dz.w_dtup, Dz.w_dlst, Dz.asDs_nil, Dz.asDs_cons, Dz.w_some, Dz.w_kTup, Dz.w_kLst, Dz.w_addL, Dz.w_addT, Dz.w_sl, Dz.w_oNone, Dz.w_oSome, Dz.w_asI, Dz.w_slL, Dz.w_slT, Dz.w_zp, Dz.w_itZL, Dz.w_itZT, Dz.w_rg3, Dz.w_par, Dz.w_asg, Dz.w_asD, Dz.w_fld, Dz.w_sfd, Dz.w_mk, Dz.w_pro, Dz.w_isI, Dz.w_met, Dz.w_ncb, Dz.w_tupL, Dz.w_tupT, Dz.w_listL, Dz.w_listT, Dz.w_sorted, Dz.w_minI, Dz.w_itA, Dz.w_itAt, Dz.w_itAs, Dz.w_itAz, Dz.w_inT, Dz.w_inL, Dz.w_niT, Dz.w_inD, Dz.w_eqS, Dz.w_neS, Dz.w_eqI, Dz.w_neI, Dz.w_eqB, Dz.w_neB, Dz.w_eqL, Dz.w_neL, Dz.w_eqT, Dz.w_neT, Dz.dunNe_str, Dz.dunNe_bl, Dz.dunNe_int, Dz.dunNe_lst, Dz.dunNe_tup, Dz.dunNe_non, Dz.dunEq_str, Dz.dunEq_bl, Dz.dunEq_int, Dz.dunEq_lst, Dz.dunEq_tup, Dz.dunEq_non, Dz.dunIn_ins, Dz.tBoolX_ins, Dz.w_notB, Dz.w_isB, Dz.wp_bnd, List.map_cons, List.map_nil, List.length_cons, List.length_nil, List.replicate, List.cons_append, List.nil_append, List.append_nil, List.getElem?_cons_zero, List.getElem?_cons_succ, List.set_cons_zero, List.set_cons_succ, Nat.reduceAdd, Nat.reduceSub, Nat.zero_add, Nat.sub_zero, Bool.not_true, Bool.not_false, if_true, if_false, Bool.false_eq_true, reduceIte, decide_eq_true_eq, Option.map_some, Nat.reduceLeDiff]))
    exact q
  · rw [if_neg hn] at q ⊢
    rw [show (.int 2 : D) = .int ((2 : Nat) : Int) from rfl, w_ixL (i := 2) rfl, w_mod (by omega), show (.int 3 : D) = .int ((3 : Nat) : Int) from rfl, w_ixL (i := 3) rfl]
    (try (simp only [Dz.wp_noE, Dz.noE_pur, Dz.w_var, Dz.w_c, Dz.w_op, Dz.w_ix, Dz.w_un, Dz.w_test, Dz.w_asB, Dz.w_not, Dz.w_and, Dz.w_or, Dz.w_if, Dz.w_sif, Dz.w_seq, Dz.after_nx, Dz.after_rt, Dz.w_next, Dz.w_ret, Dz.w_set, Dz.w_drop, Dz.w_put, Dz.w_nil, Dz.w_cons, Dz.w_cb, Dz.w_call, Dz.w_tup, Dz.w_lst, Dz.w_cell, Dz.w_for, Dz.w_of, Dz.w_rg, Dz.w_new, Dz.w_newC, Dz.w_lc, Dz.w_join, Dz.w_isS, Dz.w_chain, Dz.w_eand, Dz.w_eor, Dz.w_enot, Dz.w_ltS, Dz.w_leS, Dz.w_is, Dz.w_isnot, Dz.w_inS, Dz.w_rpr, Dz.w_itS, Dz.w_itL, Dz.w_itLs, Dz.w_itT, Dz.w_add, Dz.w_sub, Dz.w_neg, Dz.w_lt, Dz.w_le, Dz.w_gt, Dz.w_ge, Dz.w_int, Dz.w_intb, Dz.w_abs, Dz.w_max, Dz.w_min, Dz.w_lenL, Dz.w_lenT, Dz.w_lenR, Dz.wp_pur, Dz.startE, Dz.w_dtup, Dz.w_dlst, Dz.asDs_nil, Dz.asDs_cons, Dz.w_some, Dz.w_kTup, Dz.w_kLst, Dz.w_addL, Dz.w_addT, Dz.w_sl, Dz.w_oNone, Dz.w_oSome, Dz.w_asI, Dz.w_slL, Dz.w_slT, Dz.w_zp, Dz.w_itZL, Dz.w_itZT, Dz.w_rg3, Dz.w_par, Dz.w_asg, Dz.w_asD, Dz.w_fld, Dz.w_sfd, Dz.w_mk, Dz.w_pro, Dz.w_isI, Dz.w_met, Dz.w_ncb, Dz.w_tupL, Dz.w_tupT, Dz.w_listL, Dz.w_listT, Dz.w_sorted, Dz.w_minI, Dz.w_itA, Dz.w_itAt, Dz.w_itAs, Dz.w_itAz, Dz.w_inT, Dz.w_inL, Dz.w_niT, Dz.w_inD, Dz.w_eqS, Dz.w_neS, Dz.w_eqI, Dz.w_neI, Dz.w_eqB, Dz.w_neB, Dz.w_eqL, Dz.w_neL, Dz.w_eqT, Dz.w_neT, Dz.dunNe_str, Dz.dunNe_bl, Dz.dunNe_int, Dz.dunNe_lst, Dz.dunNe_tup, Dz.dunNe_non, Dz.dunEq_str, Dz.dunEq_bl, Dz.dunEq_int, Dz.dunEq_lst, Dz.dunEq_tup, Dz.dunEq_non, Dz.dunIn_ins, Dz.tBoolX_ins, Dz.w_notB, Dz.w_isB, Dz.wp_bnd, List.map_cons, List.map_nil, List.length_cons, List.length_nil, List.replicate, List.cons_append, List.nil_append, List.append_nil, List.getElem?_cons_zero, List.getElem?_cons_succ, List.set_cons_zero, List.set_cons_succ, Nat.reduceAdd, Nat.reduceSub, Nat.zero_add, Nat.sub_zero, Bool.not_true, Bool.not_false, if_true, if_false, Bool.false_eq_true, reduceIte, decide_eq_true_eq, Option.map_some, Nat.reduceLeDiff]))
    exact q
theorem law_limits_eq {p : Pt} (k : Ok p) : f__law_limits [.d (prtD p)] = pur (.d (insL (canon p))) := fn_by fun S Q q => by
  unfold b__law_limits
  (try (simp only [Dz.wp_noE, Dz.noE_pur, Dz.w_var, Dz.w_c, Dz.w_op, Dz.w_ix, Dz.w_un, Dz.w_test, Dz.w_asB, Dz.w_not, Dz.w_and, Dz.w_or, Dz.w_if, Dz.w_sif, Dz.w_seq, Dz.after_nx, Dz.after_rt, Dz.w_next, Dz.w_ret, Dz.w_set, Dz.w_drop, Dz.w_put, Dz.w_nil, Dz.w_cons, Dz.w_cb, Dz.w_call, Dz.w_tup, Dz.w_lst, Dz.w_cell, Dz.w_for, Dz.w_of, Dz.w_rg, Dz.w_new, Dz.w_newC, Dz.w_lc, Dz.w_join, Dz.w_isS, Dz.w_chain, Dz.w_eand, Dz.w_eor, Dz.w_enot, Dz.w_ltS, Dz.w_leS, Dz.w_is, Dz.w_isnot, Dz.w_inS, Dz.w_rpr, Dz.w_itS, Dz.w_itL, Dz.w_itLs, Dz.w_itT, Dz.w_add, Dz.w_sub, Dz.w_neg, Dz.w_lt, Dz.w_le, Dz.w_gt, Dz.w_ge, Dz.w_int, Dz.w_intb, Dz.w_abs, Dz.w_max, Dz.w_min, Dz.w_lenL, Dz.w_lenT, Dz.w_lenR, Dz.wp_pur, Dz.startE, Dz.w_dtup, Dz.w_dlst, Dz.asDs_nil, Dz.asDs_cons, Dz.w_some, Dz.w_kTup, Dz.w_kLst, Dz.w_addL, Dz.w_addT, Dz.w_sl, Dz.w_oNone, Dz.w_oSome, Dz.w_asI, Dz.w_slL, Dz.w_slT, Dz.w_zp, Dz.w_itZL, Dz.w_itZT, Dz.w_rg3, Dz.w_par, Dz.w_asg, Dz.w_asD, Dz.w_fld, Dz.w_sfd, Dz.w_mk, Dz.w_pro, Dz.w_isI, Dz.w_met, Dz.w_ncb, Dz.w_tupL, Dz.w_tupT, Dz.w_listL, Dz.w_listT, Dz.w_sorted, Dz.w_minI, Dz.w_itA, Dz.w_itAt, Dz.w_itAs, Dz.w_itAz, Dz.w_inT, Dz.w_inL, Dz.w_niT, Dz.w_inD, Dz.w_eqS, Dz.w_neS, Dz.w_eqI, Dz.w_neI, Dz.w_eqB, Dz.w_neB, Dz.w_eqL, Dz.w_neL, Dz.w_eqT, Dz.w_neT, Dz.dunNe_str, Dz.dunNe_bl, Dz.dunNe_int, Dz.dunNe_lst, Dz.dunNe_tup, Dz.dunNe_non, Dz.dunEq_str, Dz.dunEq_bl, Dz.dunEq_int, Dz.dunEq_lst, Dz.dunEq_tup, Dz.dunEq_non, Dz.dunIn_ins, Dz.tBoolX_ins, Dz.w_notB, Dz.w_isB, Dz.wp_bnd, List.map_cons, List.map_nil, List.length_cons, List.length_nil, List.replicate, List.cons_append, List.nil_append, List.append_nil, List.getElem?_cons_zero, List.getElem?_cons_succ, List.set_cons_zero, List.set_cons_succ, Nat.reduceAdd, Nat.reduceSub, Nat.zero_add, Nat.sub_zero, Bool.not_true, Bool.not_false, if_true, if_false, Bool.false_eq_true, reduceIte, decide_eq_true_eq, Option.map_some, Nat.reduceLeDiff]))
  unfold prtD
  rw [show (.int 0 : D) = .int ((0 : Nat) : Int) from rfl, w_ixL (i := 0) rfl, show (.int 1 : D) = .int ((1 : Nat) : Int) from rfl, w_ixL (i := 1) rfl, show (.int 2 : D) = .int ((2 : Nat) : Int) from rfl, w_ixL (i := 2) rfl, show (.int 3 : D) = .int ((3 : Nat) : Int) from rfl, w_ixL (i := 3) rfl]
  rw [make_eq k]
  exact wp_pur.mpr q
def belowL (p : Pt) (n : Nat) : List Int := (Lim.upto 0 n).filter fun x => has p x
def okB (p : Pt) : Bool := decide (0 ≤ p.fst) && (decide (p.fst ≤ 2000) && (decide (1 ≤ p.per) && (decide (p.per ≤ 2000) && (decide (p.few.Pairwise (· < ·)) && (p.few.all (fun x => decide (0 ≤ x ∧ x < p.fst)) && (decide (p.rst.Pairwise (· < ·)) && p.rst.all fun x => decide (0 ≤ x ∧ x < p.per)))))))
theorem okB_ok {p : Pt} (h : okB p = true) : Ok p := by
  unfold okB at h
  simp only [Bool.and_eq_true, decide_eq_true_eq, List.all_eq_true] at h
  obtain ⟨a, b, c, d, e, f, g, i⟩ := h
  exact ⟨a, b, c, d, e, f, g, i⟩
end K03

namespace K03
open PySem PySem.Spec PyProof.Rows L2 Dz


open Lim
/-! ### draws -/
theorem toss_wp {n : Nat} {S : Sto} {t : Int} (h : Die n S) (h0 : 0 < t) (h1 : t < 1073741824) : wp (f__law_toss [.c n, .d (.int t)]) S fun x S' => ∃ r, x = .d (.int r) ∧ 0 ≤ r ∧ r < t ∧ Drw n S S' := by
  obtain ⟨a, b, c, h⟩ := h
  have hl : n < S.length := (List.getElem?_eq_some_iff.mp h).1
  apply wp_fn
  unfold b__law_toss
  (try (simp only [Dz.wp_noE, Dz.noE_pur, Dz.w_var, Dz.w_c, Dz.w_op, Dz.w_ix, Dz.w_un, Dz.w_test, Dz.w_asB, Dz.w_not, Dz.w_and, Dz.w_or, Dz.w_if, Dz.w_sif, Dz.w_seq, Dz.after_nx, Dz.after_rt, Dz.w_next, Dz.w_ret, Dz.w_set, Dz.w_drop, Dz.w_put, Dz.w_nil, Dz.w_cons, Dz.w_cb, Dz.w_call, Dz.w_tup, Dz.w_lst, Dz.w_cell, Dz.w_for, Dz.w_of, Dz.w_rg, Dz.w_new, Dz.w_newC, Dz.w_lc, Dz.w_join, Dz.w_isS, Dz.w_chain, Dz.w_eand, Dz.w_eor, Dz.w_enot, Dz.w_ltS, Dz.w_leS, Dz.w_is, Dz.w_isnot, Dz.w_inS, Dz.w_rpr, Dz.w_itS, Dz.w_itL, Dz.w_itLs, Dz.w_itT, Dz.w_add, Dz.w_sub, Dz.w_neg, Dz.w_lt, Dz.w_le, Dz.w_gt, Dz.w_ge, Dz.w_int, Dz.w_intb, Dz.w_abs, Dz.w_max, Dz.w_min, Dz.w_lenL, Dz.w_lenT, Dz.w_lenR, Dz.wp_pur, Dz.startE, Dz.w_dtup, Dz.w_dlst, Dz.asDs_nil, Dz.asDs_cons, Dz.w_some, Dz.w_kTup, Dz.w_kLst, Dz.w_addL, Dz.w_addT, Dz.w_sl, Dz.w_oNone, Dz.w_oSome, Dz.w_asI, Dz.w_slL, Dz.w_slT, Dz.w_zp, Dz.w_itZL, Dz.w_itZT, Dz.w_rg3, Dz.w_par, Dz.w_asg, Dz.w_asD, Dz.w_fld, Dz.w_sfd, Dz.w_mk, Dz.w_pro, Dz.w_isI, Dz.w_met, Dz.w_ncb, Dz.w_tupL, Dz.w_tupT, Dz.w_listL, Dz.w_listT, Dz.w_sorted, Dz.w_minI, Dz.w_itA, Dz.w_itAt, Dz.w_itAs, Dz.w_itAz, Dz.w_inT, Dz.w_inL, Dz.w_niT, Dz.w_inD, Dz.w_eqS, Dz.w_neS, Dz.w_eqI, Dz.w_neI, Dz.w_eqB, Dz.w_neB, Dz.w_eqL, Dz.w_neL, Dz.w_eqT, Dz.w_neT, Dz.dunNe_str, Dz.dunNe_bl, Dz.dunNe_int, Dz.dunNe_lst, Dz.dunNe_tup, Dz.dunNe_non, Dz.dunEq_str, Dz.dunEq_bl, Dz.dunEq_int, Dz.dunEq_lst, Dz.dunEq_tup, Dz.dunEq_non, Dz.dunIn_ins, Dz.tBoolX_ins, Dz.w_notB, Dz.w_isB, Dz.wp_bnd, List.map_cons, List.map_nil, List.length_cons, List.length_nil, List.replicate, List.cons_append, List.nil_append, List.append_nil, List.getElem?_cons_zero, List.getElem?_cons_succ, List.set_cons_zero, List.set_cons_succ, Nat.reduceAdd, Nat.reduceSub, Nat.zero_add, Nat.sub_zero, Bool.not_true, Bool.not_false, if_true, if_false, Bool.false_eq_true, reduceIte, decide_eq_true_eq, Option.map_some, Nat.reduceLeDiff]))
  simp only [w_die0 h]
  (try (simp only [Dz.wp_noE, Dz.noE_pur, Dz.w_var, Dz.w_c, Dz.w_op, Dz.w_ix, Dz.w_un, Dz.w_test, Dz.w_asB, Dz.w_not, Dz.w_and, Dz.w_or, Dz.w_if, Dz.w_sif, Dz.w_seq, Dz.after_nx, Dz.after_rt, Dz.w_next, Dz.w_ret, Dz.w_set, Dz.w_drop, Dz.w_put, Dz.w_nil, Dz.w_cons, Dz.w_cb, Dz.w_call, Dz.w_tup, Dz.w_lst, Dz.w_cell, Dz.w_for, Dz.w_of, Dz.w_rg, Dz.w_new, Dz.w_newC, Dz.w_lc, Dz.w_join, Dz.w_isS, Dz.w_chain, Dz.w_eand, Dz.w_eor, Dz.w_enot, Dz.w_ltS, Dz.w_leS, Dz.w_is, Dz.w_isnot, Dz.w_inS, Dz.w_rpr, Dz.w_itS, Dz.w_itL, Dz.w_itLs, Dz.w_itT, Dz.w_add, Dz.w_sub, Dz.w_neg, Dz.w_lt, Dz.w_le, Dz.w_gt, Dz.w_ge, Dz.w_int, Dz.w_intb, Dz.w_abs, Dz.w_max, Dz.w_min, Dz.w_lenL, Dz.w_lenT, Dz.w_lenR, Dz.wp_pur, Dz.startE, Dz.w_dtup, Dz.w_dlst, Dz.asDs_nil, Dz.asDs_cons, Dz.w_some, Dz.w_kTup, Dz.w_kLst, Dz.w_addL, Dz.w_addT, Dz.w_sl, Dz.w_oNone, Dz.w_oSome, Dz.w_asI, Dz.w_slL, Dz.w_slT, Dz.w_zp, Dz.w_itZL, Dz.w_itZT, Dz.w_rg3, Dz.w_par, Dz.w_asg, Dz.w_asD, Dz.w_fld, Dz.w_sfd, Dz.w_mk, Dz.w_pro, Dz.w_isI, Dz.w_met, Dz.w_ncb, Dz.w_tupL, Dz.w_tupT, Dz.w_listL, Dz.w_listT, Dz.w_sorted, Dz.w_minI, Dz.w_itA, Dz.w_itAt, Dz.w_itAs, Dz.w_itAz, Dz.w_inT, Dz.w_inL, Dz.w_niT, Dz.w_inD, Dz.w_eqS, Dz.w_neS, Dz.w_eqI, Dz.w_neI, Dz.w_eqB, Dz.w_neB, Dz.w_eqL, Dz.w_neL, Dz.w_eqT, Dz.w_neT, Dz.dunNe_str, Dz.dunNe_bl, Dz.dunNe_int, Dz.dunNe_lst, Dz.dunNe_tup, Dz.dunNe_non, Dz.dunEq_str, Dz.dunEq_bl, Dz.dunEq_int, Dz.dunEq_lst, Dz.dunEq_tup, Dz.dunEq_non, Dz.dunIn_ins, Dz.tBoolX_ins, Dz.w_notB, Dz.w_isB, Dz.wp_bnd, List.map_cons, List.map_nil, List.length_cons, List.length_nil, List.replicate, List.cons_append, List.nil_append, List.append_nil, List.getElem?_cons_zero, List.getElem?_cons_succ, List.set_cons_zero, List.set_cons_succ, Nat.reduceAdd, Nat.reduceSub, Nat.zero_add, Nat.sub_zero, Bool.not_true, Bool.not_false, if_true, if_false, Bool.false_eq_true, reduceIte, decide_eq_true_eq, Option.map_some, Nat.reduceLeDiff]))
  split
  · simp only [w_die0 h, w_int, w_mod h0, w_div ⟨h0, h1⟩, w_put0 h]
    refine ⟨_, rfl, _, rfl, Int.emod_nonneg _ (by omega), Int.emod_lt_of_pos _ h0, ?_⟩
    have d : Drw n S (S.set n (.lst [.int (a / t), .int b, .int c])) := ⟨_, _, _, rfl⟩
    rw [d.take]
    exact d
  · simp only [w_die2 h, w_add, w_put2 h]
    have h2 : (S.set n (.lst [.int a, .int b, .int (c + 1)]))[n]? = some (.lst [.int a, .int b, .int (c + 1)]) := List.getElem?_set_self hl
    have d : Drw n S (S.set n (.lst [.int a, .int b, .int (c + 1)])) := ⟨_, _, _, rfl⟩
    rw [w_die1 h2, w_die2 h2, w_mul_l (by decide), w_add, w_int, w_mod (by decide)]
    generalize hx : (b + 920419813 * (c + 1)) % 2305843009213693907 = x
    have hx0 : 0 ≤ x := by rw [← hx]; exact Int.emod_nonneg _ (by decide)
    have hx1 : x < 2305843009213693907 := by rw [← hx]; exact Int.emod_lt_of_pos _ (by decide)
    rw [w_mul_l ⟨by omega, by omega⟩, w_int, w_mod (by decide)]
    generalize hy : x * x % 1000000000000037 = y
    have hy0 : 0 ≤ y := by rw [← hy]; exact Int.emod_nonneg _ (by decide)
    have hy1 : y < 1000000000000037 := by rw [← hy]; exact Int.emod_lt_of_pos _ (by decide)
    rw [w_mul_l ⟨by omega, by omega⟩, w_die2 h2, w_mul_l (by decide), w_add, w_die1 h2, w_add, w_int, w_mod (by decide), w_div (by decide), w_int, w_mod h0]
    refine ⟨_, rfl, _, rfl, Int.emod_nonneg _ (by omega), Int.emod_lt_of_pos _ h0, ?_⟩
    rw [d.take]
    exact d
theorem pick_wp {n : Nat} {S : Sto} {it : D} (h : Die n S) (hk : ∃ zs, it = .lst zs ∨ it = .tup zs ∨ ∃ z : Str, it = .str z ∧ z.length ≤ 1000) (h0 : 0 < (itemsOf it).length) (h1 : (itemsOf it).length < 1000000) : wp (f__law_pick [.c n, .d it]) S fun x S' => ∃ y, x = .d y ∧ y ∈ itemsOf it ∧ Drw n S S' := by
  apply wp_fn
  unfold b__law_pick
  (try (simp only [Dz.wp_noE, Dz.noE_pur, Dz.w_var, Dz.w_c, Dz.w_op, Dz.w_ix, Dz.w_un, Dz.w_test, Dz.w_asB, Dz.w_not, Dz.w_and, Dz.w_or, Dz.w_if, Dz.w_sif, Dz.w_seq, Dz.after_nx, Dz.after_rt, Dz.w_next, Dz.w_ret, Dz.w_set, Dz.w_drop, Dz.w_put, Dz.w_nil, Dz.w_cons, Dz.w_cb, Dz.w_call, Dz.w_tup, Dz.w_lst, Dz.w_cell, Dz.w_for, Dz.w_of, Dz.w_rg, Dz.w_new, Dz.w_newC, Dz.w_lc, Dz.w_join, Dz.w_isS, Dz.w_chain, Dz.w_eand, Dz.w_eor, Dz.w_enot, Dz.w_ltS, Dz.w_leS, Dz.w_is, Dz.w_isnot, Dz.w_inS, Dz.w_rpr, Dz.w_itS, Dz.w_itL, Dz.w_itLs, Dz.w_itT, Dz.w_add, Dz.w_sub, Dz.w_neg, Dz.w_lt, Dz.w_le, Dz.w_gt, Dz.w_ge, Dz.w_int, Dz.w_intb, Dz.w_abs, Dz.w_max, Dz.w_min, Dz.w_lenL, Dz.w_lenT, Dz.w_lenR, Dz.wp_pur, Dz.startE, Dz.w_dtup, Dz.w_dlst, Dz.asDs_nil, Dz.asDs_cons, Dz.w_some, Dz.w_kTup, Dz.w_kLst, Dz.w_addL, Dz.w_addT, Dz.w_sl, Dz.w_oNone, Dz.w_oSome, Dz.w_asI, Dz.w_slL, Dz.w_slT, Dz.w_zp, Dz.w_itZL, Dz.w_itZT, Dz.w_rg3, Dz.w_par, Dz.w_asg, Dz.w_asD, Dz.w_fld, Dz.w_sfd, Dz.w_mk, Dz.w_pro, Dz.w_isI, Dz.w_met, Dz.w_ncb, Dz.w_tupL, Dz.w_tupT, Dz.w_listL, Dz.w_listT, Dz.w_sorted, Dz.w_minI, Dz.w_itA, Dz.w_itAt, Dz.w_itAs, Dz.w_itAz, Dz.w_inT, Dz.w_inL, Dz.w_niT, Dz.w_inD, Dz.w_eqS, Dz.w_neS, Dz.w_eqI, Dz.w_neI, Dz.w_eqB, Dz.w_neB, Dz.w_eqL, Dz.w_neL, Dz.w_eqT, Dz.w_neT, Dz.dunNe_str, Dz.dunNe_bl, Dz.dunNe_int, Dz.dunNe_lst, Dz.dunNe_tup, Dz.dunNe_non, Dz.dunEq_str, Dz.dunEq_bl, Dz.dunEq_int, Dz.dunEq_lst, Dz.dunEq_tup, Dz.dunEq_non, Dz.dunIn_ins, Dz.tBoolX_ins, Dz.w_notB, Dz.w_isB, Dz.wp_bnd, List.map_cons, List.map_nil, List.length_cons, List.length_nil, List.replicate, List.cons_append, List.nil_append, List.append_nil, List.getElem?_cons_zero, List.getElem?_cons_succ, List.set_cons_zero, List.set_cons_succ, Nat.reduceAdd, Nat.reduceSub, Nat.zero_add, Nat.sub_zero, Bool.not_true, Bool.not_false, if_true, if_false, Bool.false_eq_true, reduceIte, decide_eq_true_eq, Option.map_some, Nat.reduceLeDiff]))
  refine len_wp hk ?_
  refine wp_mono (toss_wp h (by omega) (by omega)) ?_
  rintro _ S1 ⟨r, rfl, r0, r1, d⟩
  refine wp_mono (ix_wp hk r0 r1) ?_
  rintro _ S2 ⟨y, rfl, hy, rfl⟩
  refine ⟨y, rfl, y, rfl, hy, ?_⟩
  rw [d.take]
  exact d
theorem urn_wp {ns : List Int} {at_ : Int} {S : Sto} (h0 : 0 ≤ at_) (h1 : at_ < 100000) : wp (f__law_urn [.d (.scr ns), .d (.int at_)]) S fun x S' => x = .c S.length ∧ ∃ a b c, S' = S ++ [.lst [.int a, .int b, .int c]] := by
  apply wp_fnC
  unfold b__law_urn
  (try (simp only [Dz.wp_noE, Dz.noE_pur, Dz.w_var, Dz.w_c, Dz.w_op, Dz.w_ix, Dz.w_un, Dz.w_test, Dz.w_asB, Dz.w_not, Dz.w_and, Dz.w_or, Dz.w_if, Dz.w_sif, Dz.w_seq, Dz.after_nx, Dz.after_rt, Dz.w_next, Dz.w_ret, Dz.w_set, Dz.w_drop, Dz.w_put, Dz.w_nil, Dz.w_cons, Dz.w_cb, Dz.w_call, Dz.w_tup, Dz.w_lst, Dz.w_cell, Dz.w_for, Dz.w_of, Dz.w_rg, Dz.w_new, Dz.w_newC, Dz.w_lc, Dz.w_join, Dz.w_isS, Dz.w_chain, Dz.w_eand, Dz.w_eor, Dz.w_enot, Dz.w_ltS, Dz.w_leS, Dz.w_is, Dz.w_isnot, Dz.w_inS, Dz.w_rpr, Dz.w_itS, Dz.w_itL, Dz.w_itLs, Dz.w_itT, Dz.w_add, Dz.w_sub, Dz.w_neg, Dz.w_lt, Dz.w_le, Dz.w_gt, Dz.w_ge, Dz.w_int, Dz.w_intb, Dz.w_abs, Dz.w_max, Dz.w_min, Dz.w_lenL, Dz.w_lenT, Dz.w_lenR, Dz.wp_pur, Dz.startE, Dz.w_dtup, Dz.w_dlst, Dz.asDs_nil, Dz.asDs_cons, Dz.w_some, Dz.w_kTup, Dz.w_kLst, Dz.w_addL, Dz.w_addT, Dz.w_sl, Dz.w_oNone, Dz.w_oSome, Dz.w_asI, Dz.w_slL, Dz.w_slT, Dz.w_zp, Dz.w_itZL, Dz.w_itZT, Dz.w_rg3, Dz.w_par, Dz.w_asg, Dz.w_asD, Dz.w_fld, Dz.w_sfd, Dz.w_mk, Dz.w_pro, Dz.w_isI, Dz.w_met, Dz.w_ncb, Dz.w_tupL, Dz.w_tupT, Dz.w_listL, Dz.w_listT, Dz.w_sorted, Dz.w_minI, Dz.w_itA, Dz.w_itAt, Dz.w_itAs, Dz.w_itAz, Dz.w_inT, Dz.w_inL, Dz.w_niT, Dz.w_inD, Dz.w_eqS, Dz.w_neS, Dz.w_eqI, Dz.w_neI, Dz.w_eqB, Dz.w_neB, Dz.w_eqL, Dz.w_neL, Dz.w_eqT, Dz.w_neT, Dz.dunNe_str, Dz.dunNe_bl, Dz.dunNe_int, Dz.dunNe_lst, Dz.dunNe_tup, Dz.dunNe_non, Dz.dunEq_str, Dz.dunEq_bl, Dz.dunEq_int, Dz.dunEq_lst, Dz.dunEq_tup, Dz.dunEq_non, Dz.dunIn_ins, Dz.tBoolX_ins, Dz.w_notB, Dz.w_isB, Dz.wp_bnd, List.map_cons, List.map_nil, List.length_cons, List.length_nil, List.replicate, List.cons_append, List.nil_append, List.append_nil, List.getElem?_cons_zero, List.getElem?_cons_succ, List.set_cons_zero, List.set_cons_succ, Nat.reduceAdd, Nat.reduceSub, Nat.zero_add, Nat.sub_zero, Bool.not_true, Bool.not_false, if_true, if_false, Bool.false_eq_true, reduceIte, decide_eq_true_eq, Option.map_some, Nat.reduceLeDiff]))
  split
  · rename_i h
    have hr : at_.toNat < ns.length := by omega
    refine wp_opt (a := ns[at_.toNat]) (by rw [atI_nn h0 h, List.getElem?_eq_getElem hr]) ?_
    rw [wp_pur]
    rw [w_abs, w_int, w_pow (by decide +kernel), w_pow (by decide +kernel), w_mod (by decide +kernel), w_mul_r (by decide), w_mul_l (by decide), w_add, w_lt, w_intb, w_mul_l (by decide), w_add, w_add, w_int, w_mod (by decide), w_pow (by decide +kernel), w_sub, w_max]
    exact ⟨_, _, rfl, S.length, _, rfl, Nat.le_refl _, List.getElem?_concat_length, trivial, _, _, _, by rw [List.take_left]⟩
  · rw [w_mul_l (by decide), w_add]
    rw [w_abs, w_int, w_pow (by decide +kernel), w_pow (by decide +kernel), w_mod (by decide +kernel), w_mul_r (by decide), w_mul_l (by decide), w_add, w_lt, w_intb, w_mul_l (by decide), w_add, w_add, w_int, w_mod (by decide), w_pow (by decide +kernel), w_sub, w_max]
    exact ⟨_, _, rfl, S.length, _, rfl, Nat.le_refl _, List.getElem?_concat_length, trivial, _, _, _, by rw [List.take_left]⟩
theorem mem_first {y : D} (h : y ∈ itemsOf (.lst [.int 0, .int 3, .int 1, .int 6, .int 2, .int 9])) : ∃ f : Int, y = .int f ∧ 0 ≤ f ∧ f ≤ 9 := by
  have h : y ∈ [D.int 0, .int 3, .int 1, .int 6, .int 2, .int 9] := h
  simp only [List.mem_cons, List.not_mem_nil, or_false] at h
  rcases h with rfl | rfl | rfl | rfl | rfl | rfl <;> exact ⟨_, rfl, by omega, by omega⟩
theorem mem_per {y : D} (h : y ∈ itemsOf (.lst [.int 1, .int 2, .int 3, .int 6, .int 4, .int 5, .int 12])) : ∃ q : Int, y = .int q ∧ 1 ≤ q ∧ q ≤ 12 ∧ (60 : Int) % q = 0 := by
  have h : y ∈ [D.int 1, .int 2, .int 3, .int 6, .int 4, .int 5, .int 12] := h
  simp only [List.mem_cons, List.not_mem_nil, or_false] at h
  rcases h with rfl | rfl | rfl | rfl | rfl | rfl | rfl <;> exact ⟨_, rfl, by omega, by omega, by decide⟩
theorem drawn_wp {n : Nat} {S : Sto} (h : Die n S) : wp (f__law_drawn [.c n]) S fun x S' => ∃ p : Pt, x = .d (prtD p) ∧ Small p ∧ p.per ≤ 12 ∧ Drw n S S' := by
  have hl := h
  apply wp_fn
  unfold b__law_drawn
  (try (simp only [Dz.wp_noE, Dz.noE_pur, Dz.w_var, Dz.w_c, Dz.w_op, Dz.w_ix, Dz.w_un, Dz.w_test, Dz.w_asB, Dz.w_not, Dz.w_and, Dz.w_or, Dz.w_if, Dz.w_sif, Dz.w_seq, Dz.after_nx, Dz.after_rt, Dz.w_next, Dz.w_ret, Dz.w_set, Dz.w_drop, Dz.w_put, Dz.w_nil, Dz.w_cons, Dz.w_cb, Dz.w_call, Dz.w_tup, Dz.w_lst, Dz.w_cell, Dz.w_for, Dz.w_of, Dz.w_rg, Dz.w_new, Dz.w_newC, Dz.w_lc, Dz.w_join, Dz.w_isS, Dz.w_chain, Dz.w_eand, Dz.w_eor, Dz.w_enot, Dz.w_ltS, Dz.w_leS, Dz.w_is, Dz.w_isnot, Dz.w_inS, Dz.w_rpr, Dz.w_itS, Dz.w_itL, Dz.w_itLs, Dz.w_itT, Dz.w_add, Dz.w_sub, Dz.w_neg, Dz.w_lt, Dz.w_le, Dz.w_gt, Dz.w_ge, Dz.w_int, Dz.w_intb, Dz.w_abs, Dz.w_max, Dz.w_min, Dz.w_lenL, Dz.w_lenT, Dz.w_lenR, Dz.wp_pur, Dz.startE, Dz.w_dtup, Dz.w_dlst, Dz.asDs_nil, Dz.asDs_cons, Dz.w_some, Dz.w_kTup, Dz.w_kLst, Dz.w_addL, Dz.w_addT, Dz.w_sl, Dz.w_oNone, Dz.w_oSome, Dz.w_asI, Dz.w_slL, Dz.w_slT, Dz.w_zp, Dz.w_itZL, Dz.w_itZT, Dz.w_rg3, Dz.w_par, Dz.w_asg, Dz.w_asD, Dz.w_fld, Dz.w_sfd, Dz.w_mk, Dz.w_pro, Dz.w_isI, Dz.w_met, Dz.w_ncb, Dz.w_tupL, Dz.w_tupT, Dz.w_listL, Dz.w_listT, Dz.w_sorted, Dz.w_minI, Dz.w_itA, Dz.w_itAt, Dz.w_itAs, Dz.w_itAz, Dz.w_inT, Dz.w_inL, Dz.w_niT, Dz.w_inD, Dz.w_eqS, Dz.w_neS, Dz.w_eqI, Dz.w_neI, Dz.w_eqB, Dz.w_neB, Dz.w_eqL, Dz.w_neL, Dz.w_eqT, Dz.w_neT, Dz.dunNe_str, Dz.dunNe_bl, Dz.dunNe_int, Dz.dunNe_lst, Dz.dunNe_tup, Dz.dunNe_non, Dz.dunEq_str, Dz.dunEq_bl, Dz.dunEq_int, Dz.dunEq_lst, Dz.dunEq_tup, Dz.dunEq_non, Dz.dunIn_ins, Dz.tBoolX_ins, Dz.w_notB, Dz.w_isB, Dz.wp_bnd, List.map_cons, List.map_nil, List.length_cons, List.length_nil, List.replicate, List.cons_append, List.nil_append, List.append_nil, List.getElem?_cons_zero, List.getElem?_cons_succ, List.set_cons_zero, List.set_cons_succ, Nat.reduceAdd, Nat.reduceSub, Nat.zero_add, Nat.sub_zero, Bool.not_true, Bool.not_false, if_true, if_false, Bool.false_eq_true, reduceIte, decide_eq_true_eq, Option.map_some, Nat.reduceLeDiff]))
  refine wp_mono (pick_wp h ⟨_, .inl rfl⟩ (by decide) (by decide)) ?_
  rintro _ S1 ⟨y, rfl, hy, d1⟩
  obtain ⟨f, rfl, f0, f9⟩ := mem_first hy
  refine wp_mono (pick_wp (d1.die h) ⟨_, .inl rfl⟩ (by decide) (by decide)) ?_
  rintro _ S2 ⟨y, rfl, hy, d2⟩
  obtain ⟨q, rfl, q1, q12, q60⟩ := mem_per hy
  have d12 := d1.trans d2
  (try (simp only [Dz.wp_noE, Dz.noE_pur, Dz.w_var, Dz.w_c, Dz.w_op, Dz.w_ix, Dz.w_un, Dz.w_test, Dz.w_asB, Dz.w_not, Dz.w_and, Dz.w_or, Dz.w_if, Dz.w_sif, Dz.w_seq, Dz.after_nx, Dz.after_rt, Dz.w_next, Dz.w_ret, Dz.w_set, Dz.w_drop, Dz.w_put, Dz.w_nil, Dz.w_cons, Dz.w_cb, Dz.w_call, Dz.w_tup, Dz.w_lst, Dz.w_cell, Dz.w_for, Dz.w_of, Dz.w_rg, Dz.w_new, Dz.w_newC, Dz.w_lc, Dz.w_join, Dz.w_isS, Dz.w_chain, Dz.w_eand, Dz.w_eor, Dz.w_enot, Dz.w_ltS, Dz.w_leS, Dz.w_is, Dz.w_isnot, Dz.w_inS, Dz.w_rpr, Dz.w_itS, Dz.w_itL, Dz.w_itLs, Dz.w_itT, Dz.w_add, Dz.w_sub, Dz.w_neg, Dz.w_lt, Dz.w_le, Dz.w_gt, Dz.w_ge, Dz.w_int, Dz.w_intb, Dz.w_abs, Dz.w_max, Dz.w_min, Dz.w_lenL, Dz.w_lenT, Dz.w_lenR, Dz.wp_pur, Dz.startE, Dz.w_dtup, Dz.w_dlst, Dz.asDs_nil, Dz.asDs_cons, Dz.w_some, Dz.w_kTup, Dz.w_kLst, Dz.w_addL, Dz.w_addT, Dz.w_sl, Dz.w_oNone, Dz.w_oSome, Dz.w_asI, Dz.w_slL, Dz.w_slT, Dz.w_zp, Dz.w_itZL, Dz.w_itZT, Dz.w_rg3, Dz.w_par, Dz.w_asg, Dz.w_asD, Dz.w_fld, Dz.w_sfd, Dz.w_mk, Dz.w_pro, Dz.w_isI, Dz.w_met, Dz.w_ncb, Dz.w_tupL, Dz.w_tupT, Dz.w_listL, Dz.w_listT, Dz.w_sorted, Dz.w_minI, Dz.w_itA, Dz.w_itAt, Dz.w_itAs, Dz.w_itAz, Dz.w_inT, Dz.w_inL, Dz.w_niT, Dz.w_inD, Dz.w_eqS, Dz.w_neS, Dz.w_eqI, Dz.w_neI, Dz.w_eqB, Dz.w_neB, Dz.w_eqL, Dz.w_neL, Dz.w_eqT, Dz.w_neT, Dz.dunNe_str, Dz.dunNe_bl, Dz.dunNe_int, Dz.dunNe_lst, Dz.dunNe_tup, Dz.dunNe_non, Dz.dunEq_str, Dz.dunEq_bl, Dz.dunEq_int, Dz.dunEq_lst, Dz.dunEq_tup, Dz.dunEq_non, Dz.dunIn_ins, Dz.tBoolX_ins, Dz.w_notB, Dz.w_isB, Dz.wp_bnd, List.map_cons, List.map_nil, List.length_cons, List.length_nil, List.replicate, List.cons_append, List.nil_append, List.append_nil, List.getElem?_cons_zero, List.getElem?_cons_succ, List.set_cons_zero, List.set_cons_succ, Nat.reduceAdd, Nat.reduceSub, Nat.zero_add, Nat.sub_zero, Bool.not_true, Bool.not_false, if_true, if_false, Bool.false_eq_true, reduceIte, decide_eq_true_eq, Option.map_some, Nat.reduceLeDiff]))
  rw [w_itR ⟨by omega, by omega⟩, dInts_ints, if_pos (by rw [List.length_map, ints_len]; omega)]
  refine wp_mono (lcL_draw (I := fun S' => Drw n S S') (Lim.upto 0 f.toNat) S2 d12 (fun x hx S3 d3 => ?_) fun x => rfl) ?_
  · show wp (eTest (eOp cEqX (eCall f__law_toss (aCons (eVar 0) (aCons (eC (.int 2)) (aNil)))) (eC (.int 0))) [some (.c n), none, none, none, some (.d (.int f)), some (.d (.int q)), none, some (.d (.int x))]) S3 _
    (try (simp only [Dz.wp_noE, Dz.noE_pur, Dz.w_var, Dz.w_c, Dz.w_op, Dz.w_ix, Dz.w_un, Dz.w_test, Dz.w_asB, Dz.w_not, Dz.w_and, Dz.w_or, Dz.w_if, Dz.w_sif, Dz.w_seq, Dz.after_nx, Dz.after_rt, Dz.w_next, Dz.w_ret, Dz.w_set, Dz.w_drop, Dz.w_put, Dz.w_nil, Dz.w_cons, Dz.w_cb, Dz.w_call, Dz.w_tup, Dz.w_lst, Dz.w_cell, Dz.w_for, Dz.w_of, Dz.w_rg, Dz.w_new, Dz.w_newC, Dz.w_lc, Dz.w_join, Dz.w_isS, Dz.w_chain, Dz.w_eand, Dz.w_eor, Dz.w_enot, Dz.w_ltS, Dz.w_leS, Dz.w_is, Dz.w_isnot, Dz.w_inS, Dz.w_rpr, Dz.w_itS, Dz.w_itL, Dz.w_itLs, Dz.w_itT, Dz.w_add, Dz.w_sub, Dz.w_neg, Dz.w_lt, Dz.w_le, Dz.w_gt, Dz.w_ge, Dz.w_int, Dz.w_intb, Dz.w_abs, Dz.w_max, Dz.w_min, Dz.w_lenL, Dz.w_lenT, Dz.w_lenR, Dz.wp_pur, Dz.startE, Dz.w_dtup, Dz.w_dlst, Dz.asDs_nil, Dz.asDs_cons, Dz.w_some, Dz.w_kTup, Dz.w_kLst, Dz.w_addL, Dz.w_addT, Dz.w_sl, Dz.w_oNone, Dz.w_oSome, Dz.w_asI, Dz.w_slL, Dz.w_slT, Dz.w_zp, Dz.w_itZL, Dz.w_itZT, Dz.w_rg3, Dz.w_par, Dz.w_asg, Dz.w_asD, Dz.w_fld, Dz.w_sfd, Dz.w_mk, Dz.w_pro, Dz.w_isI, Dz.w_met, Dz.w_ncb, Dz.w_tupL, Dz.w_tupT, Dz.w_listL, Dz.w_listT, Dz.w_sorted, Dz.w_minI, Dz.w_itA, Dz.w_itAt, Dz.w_itAs, Dz.w_itAz, Dz.w_inT, Dz.w_inL, Dz.w_niT, Dz.w_inD, Dz.w_eqS, Dz.w_neS, Dz.w_eqI, Dz.w_neI, Dz.w_eqB, Dz.w_neB, Dz.w_eqL, Dz.w_neL, Dz.w_eqT, Dz.w_neT, Dz.dunNe_str, Dz.dunNe_bl, Dz.dunNe_int, Dz.dunNe_lst, Dz.dunNe_tup, Dz.dunNe_non, Dz.dunEq_str, Dz.dunEq_bl, Dz.dunEq_int, Dz.dunEq_lst, Dz.dunEq_tup, Dz.dunEq_non, Dz.dunIn_ins, Dz.tBoolX_ins, Dz.w_notB, Dz.w_isB, Dz.wp_bnd, List.map_cons, List.map_nil, List.length_cons, List.length_nil, List.replicate, List.cons_append, List.nil_append, List.append_nil, List.getElem?_cons_zero, List.getElem?_cons_succ, List.set_cons_zero, List.set_cons_succ, Nat.reduceAdd, Nat.reduceSub, Nat.zero_add, Nat.sub_zero, Bool.not_true, Bool.not_false, if_true, if_false, Bool.false_eq_true, reduceIte, decide_eq_true_eq, Option.map_some, Nat.reduceLeDiff]))
    refine wp_mono (toss_wp (d3.die h) (by decide) (by decide)) ?_
    rintro _ S4 ⟨r, rfl, _, _, d4⟩
    (try (simp only [Dz.wp_noE, Dz.noE_pur, Dz.w_var, Dz.w_c, Dz.w_op, Dz.w_ix, Dz.w_un, Dz.w_test, Dz.w_asB, Dz.w_not, Dz.w_and, Dz.w_or, Dz.w_if, Dz.w_sif, Dz.w_seq, Dz.after_nx, Dz.after_rt, Dz.w_next, Dz.w_ret, Dz.w_set, Dz.w_drop, Dz.w_put, Dz.w_nil, Dz.w_cons, Dz.w_cb, Dz.w_call, Dz.w_tup, Dz.w_lst, Dz.w_cell, Dz.w_for, Dz.w_of, Dz.w_rg, Dz.w_new, Dz.w_newC, Dz.w_lc, Dz.w_join, Dz.w_isS, Dz.w_chain, Dz.w_eand, Dz.w_eor, Dz.w_enot, Dz.w_ltS, Dz.w_leS, Dz.w_is, Dz.w_isnot, Dz.w_inS, Dz.w_rpr, Dz.w_itS, Dz.w_itL, Dz.w_itLs, Dz.w_itT, Dz.w_add, Dz.w_sub, Dz.w_neg, Dz.w_lt, Dz.w_le, Dz.w_gt, Dz.w_ge, Dz.w_int, Dz.w_intb, Dz.w_abs, Dz.w_max, Dz.w_min, Dz.w_lenL, Dz.w_lenT, Dz.w_lenR, Dz.wp_pur, Dz.startE, Dz.w_dtup, Dz.w_dlst, Dz.asDs_nil, Dz.asDs_cons, Dz.w_some, Dz.w_kTup, Dz.w_kLst, Dz.w_addL, Dz.w_addT, Dz.w_sl, Dz.w_oNone, Dz.w_oSome, Dz.w_asI, Dz.w_slL, Dz.w_slT, Dz.w_zp, Dz.w_itZL, Dz.w_itZT, Dz.w_rg3, Dz.w_par, Dz.w_asg, Dz.w_asD, Dz.w_fld, Dz.w_sfd, Dz.w_mk, Dz.w_pro, Dz.w_isI, Dz.w_met, Dz.w_ncb, Dz.w_tupL, Dz.w_tupT, Dz.w_listL, Dz.w_listT, Dz.w_sorted, Dz.w_minI, Dz.w_itA, Dz.w_itAt, Dz.w_itAs, Dz.w_itAz, Dz.w_inT, Dz.w_inL, Dz.w_niT, Dz.w_inD, Dz.w_eqS, Dz.w_neS, Dz.w_eqI, Dz.w_neI, Dz.w_eqB, Dz.w_neB, Dz.w_eqL, Dz.w_neL, Dz.w_eqT, Dz.w_neT, Dz.dunNe_str, Dz.dunNe_bl, Dz.dunNe_int, Dz.dunNe_lst, Dz.dunNe_tup, Dz.dunNe_non, Dz.dunEq_str, Dz.dunEq_bl, Dz.dunEq_int, Dz.dunEq_lst, Dz.dunEq_tup, Dz.dunEq_non, Dz.dunIn_ins, Dz.tBoolX_ins, Dz.w_notB, Dz.w_isB, Dz.wp_bnd, List.map_cons, List.map_nil, List.length_cons, List.length_nil, List.replicate, List.cons_append, List.nil_append, List.append_nil, List.getElem?_cons_zero, List.getElem?_cons_succ, List.set_cons_zero, List.set_cons_succ, Nat.reduceAdd, Nat.reduceSub, Nat.zero_add, Nat.sub_zero, Bool.not_true, Bool.not_false, if_true, if_false, Bool.false_eq_true, reduceIte, decide_eq_true_eq, Option.map_some, Nat.reduceLeDiff]))
    exact d3.trans d4
  rintro _ S3 ⟨⟨few, hs, rfl⟩, d3⟩
  refine wp_mono (toss_wp (d3.die h) (by decide) (by decide)) ?_
  rintro _ S4 ⟨w, rfl, w0, w1, d4⟩
  have d4 := d3.trans d4
  rw [w_itR ⟨by omega, by omega⟩, dInts_ints, if_pos (by rw [List.length_map, ints_len]; omega)]
  refine wp_mono (lcL_draw (I := fun S' => Drw n S S') (Lim.upto 0 q.toNat) S4 d4 (fun x hx S5 d5 => ?_) fun x => rfl) ?_
  · show wp (bOr (eTest (eOp cEqX (eVar 2) (eC (.int 1)))) (bAnd (eTest (eOp cGt (eVar 2) (eC (.int 1)))) (eTest (eOp cEqX (eCall f__law_toss (aCons (eVar 0) (aCons (eC (.int 2)) (aNil)))) (eC (.int 0))))) [some (.c n), some (.d (.tup (few.map D.int))), some (.d (.int w)), none, some (.d (.int f)), some (.d (.int q)), some (.d (.int x)), none]) S5 _
    (try (simp only [Dz.wp_noE, Dz.noE_pur, Dz.w_var, Dz.w_c, Dz.w_op, Dz.w_ix, Dz.w_un, Dz.w_test, Dz.w_asB, Dz.w_not, Dz.w_and, Dz.w_or, Dz.w_if, Dz.w_sif, Dz.w_seq, Dz.after_nx, Dz.after_rt, Dz.w_next, Dz.w_ret, Dz.w_set, Dz.w_drop, Dz.w_put, Dz.w_nil, Dz.w_cons, Dz.w_cb, Dz.w_call, Dz.w_tup, Dz.w_lst, Dz.w_cell, Dz.w_for, Dz.w_of, Dz.w_rg, Dz.w_new, Dz.w_newC, Dz.w_lc, Dz.w_join, Dz.w_isS, Dz.w_chain, Dz.w_eand, Dz.w_eor, Dz.w_enot, Dz.w_ltS, Dz.w_leS, Dz.w_is, Dz.w_isnot, Dz.w_inS, Dz.w_rpr, Dz.w_itS, Dz.w_itL, Dz.w_itLs, Dz.w_itT, Dz.w_add, Dz.w_sub, Dz.w_neg, Dz.w_lt, Dz.w_le, Dz.w_gt, Dz.w_ge, Dz.w_int, Dz.w_intb, Dz.w_abs, Dz.w_max, Dz.w_min, Dz.w_lenL, Dz.w_lenT, Dz.w_lenR, Dz.wp_pur, Dz.startE, Dz.w_dtup, Dz.w_dlst, Dz.asDs_nil, Dz.asDs_cons, Dz.w_some, Dz.w_kTup, Dz.w_kLst, Dz.w_addL, Dz.w_addT, Dz.w_sl, Dz.w_oNone, Dz.w_oSome, Dz.w_asI, Dz.w_slL, Dz.w_slT, Dz.w_zp, Dz.w_itZL, Dz.w_itZT, Dz.w_rg3, Dz.w_par, Dz.w_asg, Dz.w_asD, Dz.w_fld, Dz.w_sfd, Dz.w_mk, Dz.w_pro, Dz.w_isI, Dz.w_met, Dz.w_ncb, Dz.w_tupL, Dz.w_tupT, Dz.w_listL, Dz.w_listT, Dz.w_sorted, Dz.w_minI, Dz.w_itA, Dz.w_itAt, Dz.w_itAs, Dz.w_itAz, Dz.w_inT, Dz.w_inL, Dz.w_niT, Dz.w_inD, Dz.w_eqS, Dz.w_neS, Dz.w_eqI, Dz.w_neI, Dz.w_eqB, Dz.w_neB, Dz.w_eqL, Dz.w_neL, Dz.w_eqT, Dz.w_neT, Dz.dunNe_str, Dz.dunNe_bl, Dz.dunNe_int, Dz.dunNe_lst, Dz.dunNe_tup, Dz.dunNe_non, Dz.dunEq_str, Dz.dunEq_bl, Dz.dunEq_int, Dz.dunEq_lst, Dz.dunEq_tup, Dz.dunEq_non, Dz.dunIn_ins, Dz.tBoolX_ins, Dz.w_notB, Dz.w_isB, Dz.wp_bnd, List.map_cons, List.map_nil, List.length_cons, List.length_nil, List.replicate, List.cons_append, List.nil_append, List.append_nil, List.getElem?_cons_zero, List.getElem?_cons_succ, List.set_cons_zero, List.set_cons_succ, Nat.reduceAdd, Nat.reduceSub, Nat.zero_add, Nat.sub_zero, Bool.not_true, Bool.not_false, if_true, if_false, Bool.false_eq_true, reduceIte, decide_eq_true_eq, Option.map_some, Nat.reduceLeDiff]))
    split
    · exact d5
    · split
      · refine wp_mono (toss_wp (d5.die h) (by decide) (by decide)) ?_
        rintro _ S6 ⟨r, rfl, _, _, d6⟩
        (try (simp only [Dz.wp_noE, Dz.noE_pur, Dz.w_var, Dz.w_c, Dz.w_op, Dz.w_ix, Dz.w_un, Dz.w_test, Dz.w_asB, Dz.w_not, Dz.w_and, Dz.w_or, Dz.w_if, Dz.w_sif, Dz.w_seq, Dz.after_nx, Dz.after_rt, Dz.w_next, Dz.w_ret, Dz.w_set, Dz.w_drop, Dz.w_put, Dz.w_nil, Dz.w_cons, Dz.w_cb, Dz.w_call, Dz.w_tup, Dz.w_lst, Dz.w_cell, Dz.w_for, Dz.w_of, Dz.w_rg, Dz.w_new, Dz.w_newC, Dz.w_lc, Dz.w_join, Dz.w_isS, Dz.w_chain, Dz.w_eand, Dz.w_eor, Dz.w_enot, Dz.w_ltS, Dz.w_leS, Dz.w_is, Dz.w_isnot, Dz.w_inS, Dz.w_rpr, Dz.w_itS, Dz.w_itL, Dz.w_itLs, Dz.w_itT, Dz.w_add, Dz.w_sub, Dz.w_neg, Dz.w_lt, Dz.w_le, Dz.w_gt, Dz.w_ge, Dz.w_int, Dz.w_intb, Dz.w_abs, Dz.w_max, Dz.w_min, Dz.w_lenL, Dz.w_lenT, Dz.w_lenR, Dz.wp_pur, Dz.startE, Dz.w_dtup, Dz.w_dlst, Dz.asDs_nil, Dz.asDs_cons, Dz.w_some, Dz.w_kTup, Dz.w_kLst, Dz.w_addL, Dz.w_addT, Dz.w_sl, Dz.w_oNone, Dz.w_oSome, Dz.w_asI, Dz.w_slL, Dz.w_slT, Dz.w_zp, Dz.w_itZL, Dz.w_itZT, Dz.w_rg3, Dz.w_par, Dz.w_asg, Dz.w_asD, Dz.w_fld, Dz.w_sfd, Dz.w_mk, Dz.w_pro, Dz.w_isI, Dz.w_met, Dz.w_ncb, Dz.w_tupL, Dz.w_tupT, Dz.w_listL, Dz.w_listT, Dz.w_sorted, Dz.w_minI, Dz.w_itA, Dz.w_itAt, Dz.w_itAs, Dz.w_itAz, Dz.w_inT, Dz.w_inL, Dz.w_niT, Dz.w_inD, Dz.w_eqS, Dz.w_neS, Dz.w_eqI, Dz.w_neI, Dz.w_eqB, Dz.w_neB, Dz.w_eqL, Dz.w_neL, Dz.w_eqT, Dz.w_neT, Dz.dunNe_str, Dz.dunNe_bl, Dz.dunNe_int, Dz.dunNe_lst, Dz.dunNe_tup, Dz.dunNe_non, Dz.dunEq_str, Dz.dunEq_bl, Dz.dunEq_int, Dz.dunEq_lst, Dz.dunEq_tup, Dz.dunEq_non, Dz.dunIn_ins, Dz.tBoolX_ins, Dz.w_notB, Dz.w_isB, Dz.wp_bnd, List.map_cons, List.map_nil, List.length_cons, List.length_nil, List.replicate, List.cons_append, List.nil_append, List.append_nil, List.getElem?_cons_zero, List.getElem?_cons_succ, List.set_cons_zero, List.set_cons_succ, Nat.reduceAdd, Nat.reduceSub, Nat.zero_add, Nat.sub_zero, Bool.not_true, Bool.not_false, if_true, if_false, Bool.false_eq_true, reduceIte, decide_eq_true_eq, Option.map_some, Nat.reduceLeDiff]))
        exact d5.trans d6
      · exact d5
  rintro _ S5 ⟨⟨rst, hr, rfl⟩, d5⟩
  (try (simp only [Dz.wp_noE, Dz.noE_pur, Dz.w_var, Dz.w_c, Dz.w_op, Dz.w_ix, Dz.w_un, Dz.w_test, Dz.w_asB, Dz.w_not, Dz.w_and, Dz.w_or, Dz.w_if, Dz.w_sif, Dz.w_seq, Dz.after_nx, Dz.after_rt, Dz.w_next, Dz.w_ret, Dz.w_set, Dz.w_drop, Dz.w_put, Dz.w_nil, Dz.w_cons, Dz.w_cb, Dz.w_call, Dz.w_tup, Dz.w_lst, Dz.w_cell, Dz.w_for, Dz.w_of, Dz.w_rg, Dz.w_new, Dz.w_newC, Dz.w_lc, Dz.w_join, Dz.w_isS, Dz.w_chain, Dz.w_eand, Dz.w_eor, Dz.w_enot, Dz.w_ltS, Dz.w_leS, Dz.w_is, Dz.w_isnot, Dz.w_inS, Dz.w_rpr, Dz.w_itS, Dz.w_itL, Dz.w_itLs, Dz.w_itT, Dz.w_add, Dz.w_sub, Dz.w_neg, Dz.w_lt, Dz.w_le, Dz.w_gt, Dz.w_ge, Dz.w_int, Dz.w_intb, Dz.w_abs, Dz.w_max, Dz.w_min, Dz.w_lenL, Dz.w_lenT, Dz.w_lenR, Dz.wp_pur, Dz.startE, Dz.w_dtup, Dz.w_dlst, Dz.asDs_nil, Dz.asDs_cons, Dz.w_some, Dz.w_kTup, Dz.w_kLst, Dz.w_addL, Dz.w_addT, Dz.w_sl, Dz.w_oNone, Dz.w_oSome, Dz.w_asI, Dz.w_slL, Dz.w_slT, Dz.w_zp, Dz.w_itZL, Dz.w_itZT, Dz.w_rg3, Dz.w_par, Dz.w_asg, Dz.w_asD, Dz.w_fld, Dz.w_sfd, Dz.w_mk, Dz.w_pro, Dz.w_isI, Dz.w_met, Dz.w_ncb, Dz.w_tupL, Dz.w_tupT, Dz.w_listL, Dz.w_listT, Dz.w_sorted, Dz.w_minI, Dz.w_itA, Dz.w_itAt, Dz.w_itAs, Dz.w_itAz, Dz.w_inT, Dz.w_inL, Dz.w_niT, Dz.w_inD, Dz.w_eqS, Dz.w_neS, Dz.w_eqI, Dz.w_neI, Dz.w_eqB, Dz.w_neB, Dz.w_eqL, Dz.w_neL, Dz.w_eqT, Dz.w_neT, Dz.dunNe_str, Dz.dunNe_bl, Dz.dunNe_int, Dz.dunNe_lst, Dz.dunNe_tup, Dz.dunNe_non, Dz.dunEq_str, Dz.dunEq_bl, Dz.dunEq_int, Dz.dunEq_lst, Dz.dunEq_tup, Dz.dunEq_non, Dz.dunIn_ins, Dz.tBoolX_ins, Dz.w_notB, Dz.w_isB, Dz.wp_bnd, List.map_cons, List.map_nil, List.length_cons, List.length_nil, List.replicate, List.cons_append, List.nil_append, List.append_nil, List.getElem?_cons_zero, List.getElem?_cons_succ, List.set_cons_zero, List.set_cons_succ, Nat.reduceAdd, Nat.reduceSub, Nat.zero_add, Nat.sub_zero, Bool.not_true, Bool.not_false, if_true, if_false, Bool.false_eq_true, reduceIte, decide_eq_true_eq, Option.map_some, Nat.reduceLeDiff]))
  refine ⟨_, rfl, ⟨few, f, q, rst⟩, rfl, ⟨⟨f0, by show f ≤ 2000; omega, q1, by show q ≤ 2000; omega, (ints_asc 0 _).sublist hs, fun x hx => ?_, (ints_asc 0 _).sublist hr, fun x hx => ?_⟩, f9, q60⟩, q12, ?_⟩
  · have := mem_ints.mp (hs.subset hx)
    show 0 ≤ x ∧ x < f
    omega
  · have := mem_ints.mp (hr.subset hx)
    show 0 ≤ x ∧ x < q
    omega
  · rw [d5.take]
    exact d5
end K03

/-! Lim3: sets of limits made of a predicate that comes round; two sets joined. -/
namespace Lim
def mk (P : Int → Bool) (F L : Int) : Pt := ⟨(upto 0 F.toNat).filter P, F, L, Dz.srt (((upto F L.toNat).filter P).map fun n => n % L)⟩
theorem mk_ok {P : Int → Bool} {F L : Int} (f0 : 0 ≤ F) (f1 : F ≤ 2000) (l0 : 1 ≤ L) (l1 : L ≤ 2000) : Ok (mk P F L) := by
  refine ⟨f0, f1, l0, l1, (ints_asc _ _).filter _, fun x hx => ?_, srt_asc (rests_nodup l0), fun x hx => ?_⟩
  · have := mem_ints.mp (List.mem_filter.mp hx).1
    show 0 ≤ x ∧ x < F
    omega
  · have hx : x ∈ Dz.srt _ := hx
    rw [mem_srt, List.mem_map] at hx
    obtain ⟨n, _, rfl⟩ := hx
    exact ⟨Int.emod_nonneg _ (by omega), Int.emod_lt_of_pos _ (show (0 : Int) < L by omega)⟩
theorem per_mulN {P : Int → Bool} {F L : Int} (l0 : 1 ≤ L) (hp : ∀ n, F ≤ n → P (n + L) = P n) {n : Int} (hn : F ≤ n) : ∀ k : Nat, P (n + L * k) = P n
  | 0 => by simp
  | k + 1 => by
    have ih := per_mulN l0 hp hn k
    have h0 : 0 ≤ L * (k : Int) := Int.mul_nonneg (by omega) (by omega)
    have e : n + L * ((k + 1 : Nat) : Int) = (n + L * (k : Int)) + L := by
      rw [Int.natCast_add, Int.mul_add]; simp; omega
    rw [e, hp _ (by omega), ih]
theorem per_same {P : Int → Bool} {F L : Int} (l0 : 1 ≤ L) (hp : ∀ n, F ≤ n → P (n + L) = P n) {m n : Int} (hm : F ≤ m) (hn : F ≤ n) (e : m % L = n % L) : P m = P n := by
  have h0 : (m - n) % L = 0 := by rw [Int.sub_emod, e, Int.sub_self, Int.zero_emod]
  obtain ⟨c, hc⟩ := Int.dvd_of_emod_eq_zero h0
  by_cases h : 0 ≤ c
  · have := per_mulN l0 hp hn c.toNat
    rw [show ((c.toNat : Nat) : Int) = c by omega] at this
    rw [← this]; congr 1; omega
  · have := per_mulN l0 hp hm (-c).toNat
    rw [show (((-c).toNat : Nat) : Int) = -c by omega, Int.mul_neg] at this
    rw [← this]; congr 1; omega
theorem mk_has {P : Int → Bool} {F L : Int} (l0 : 1 ≤ L) (hp : ∀ n, F ≤ n → P (n + L) = P n) {n : Int} (hn : 0 ≤ n) : has (mk P F L) n = P n := by
  rw [Bool.eq_iff_iff]
  by_cases h : n < F
  · have e : has (mk P F L) n = decide (n ∈ (mk P F L).few) := by unfold has; exact if_pos h
    rw [e, decide_eq_true_eq]
    show n ∈ (Lim.upto 0 F.toNat).filter P ↔ _
    rw [List.mem_filter, mem_ints]
    exact ⟨fun z => z.2, fun z => ⟨⟨hn, by omega⟩, z⟩⟩
  · have e : has (mk P F L) n = decide (n % L ∈ (mk P F L).rst) := by unfold has; exact if_neg h
    rw [e, decide_eq_true_eq]
    show n % L ∈ Dz.srt _ ↔ _
    rw [mem_srt, List.mem_map]
    constructor
    · rintro ⟨m, hm, e⟩
      obtain ⟨h1, h2⟩ := List.mem_filter.mp hm
      rw [mem_ints] at h1
      rw [← per_same l0 hp h1.1 (by omega) e]
      exact h2
    · intro hP
      have c := Int.emod_nonneg (n - F) (show L ≠ 0 by omega)
      have d := Int.emod_lt_of_pos (n - F) (show 0 < L by omega)
      have e : (F + (n - F) % L) % L = n % L := by
        rw [Int.add_emod_emod, show F + (n - F) = n by omega]
      refine ⟨F + (n - F) % L, List.mem_filter.mpr ⟨mem_ints.mpr ⟨by omega, by omega⟩, ?_⟩, e⟩
      rw [per_same l0 hp (by omega) (by omega) e]
      exact hP
/-- the numbers of both, below and from the first on -/
theorem cut_few {P : Int → Bool} {F L : Int} (f0 : 0 ≤ F) (l0 : 1 ≤ L) : ((upto 0 (F + L).toNat).filter P).filter (fun n => decide (n < F)) = (upto 0 F.toNat).filter P := by
  refine asc_ext (((ints_asc _ _).filter _).filter _) ((ints_asc _ _).filter _) fun x => ?_
  simp only [List.mem_filter, mem_ints, decide_eq_true_eq]
  constructor
  · rintro ⟨⟨a, b⟩, c⟩; exact ⟨⟨a.1, by omega⟩, b⟩
  · rintro ⟨a, b⟩; exact ⟨⟨⟨a.1, by omega⟩, b⟩, by omega⟩
theorem cut_rst {P : Int → Bool} {F L : Int} (f0 : 0 ≤ F) (l0 : 1 ≤ L) : ((upto 0 (F + L).toNat).filter P).filter (fun n => decide (F ≤ n)) = (upto F L.toNat).filter P := by
  refine asc_ext (((ints_asc _ _).filter _).filter _) ((ints_asc _ _).filter _) fun x => ?_
  simp only [List.mem_filter, mem_ints, decide_eq_true_eq]
  constructor
  · rintro ⟨⟨a, b⟩, c⟩; exact ⟨⟨c, by omega⟩, b⟩
  · rintro ⟨a, b⟩; exact ⟨⟨⟨by omega, by omega⟩, b⟩, by omega⟩
theorem has_period {p : Pt} {L n : Int} (hd : p.per ∣ L) (hn : p.fst ≤ n) (h0 : 0 ≤ L) : has p (n + L) = has p n := by
  unfold has
  rw [if_neg (by omega), if_neg (by omega)]
  obtain ⟨c, rfl⟩ := hd
  rw [Int.add_mul_emod_self_left]
/-- the least common multiple, as the code reckons it -/
def lc (a b : Int) : Int := a * b / (Nat.gcd a.toNat b.toNat : Int)
theorem lc_eq {a b : Int} (ha : 1 ≤ a) (hb : 1 ≤ b) : lc a b = (Nat.lcm a.toNat b.toNat : Int) := by
  unfold lc Nat.lcm
  rw [Int.natCast_ediv, Int.natCast_mul, show ((a.toNat : Nat) : Int) = a by omega, show ((b.toNat : Nat) : Int) = b by omega]
theorem lc_pos {a b : Int} (ha : 1 ≤ a) (hb : 1 ≤ b) : 1 ≤ lc a b := by
  rw [lc_eq ha hb]
  have := Nat.lcm_pos (show 0 < a.toNat by omega) (show 0 < b.toNat by omega)
  omega
theorem lc_l {a b : Int} (ha : 1 ≤ a) (hb : 1 ≤ b) : a ∣ lc a b := by
  rw [lc_eq ha hb]
  have := Int.natCast_dvd_natCast.mpr (Nat.dvd_lcm_left a.toNat b.toNat)
  rwa [show ((a.toNat : Nat) : Int) = a by omega] at this
theorem lc_r {a b : Int} (ha : 1 ≤ a) (hb : 1 ≤ b) : b ∣ lc a b := by
  rw [lc_eq ha hb]
  have := Int.natCast_dvd_natCast.mpr (Nat.dvd_lcm_right a.toNat b.toNat)
  rwa [show ((b.toNat : Nat) : Int) = b by omega] at this
theorem lc_dvd {a b : Int} (ha : 1 ≤ a) (hb : 1 ≤ b) {n : Nat} (h1 : a ∣ (n : Int)) (h2 : b ∣ (n : Int)) : lc a b ∣ (n : Int) := by
  rw [lc_eq ha hb]
  refine Int.natCast_dvd_natCast.mpr (Nat.lcm_dvd ?_ ?_)
  · refine Int.natCast_dvd_natCast.mp ?_
    rwa [show ((a.toNat : Nat) : Int) = a by omega]
  · refine Int.natCast_dvd_natCast.mp ?_
    rwa [show ((b.toNat : Nat) : Int) = b by omega]
def mx (a b : Int) : Int := if b > a then b else a
/-- two sets joined -/
def jn (w : Bool → Bool → Bool) (p q : Pt) : Pt := mk (fun n => w (has p n) (has q n)) (mx p.fst q.fst) (lc p.per q.per)
section
variable {w : Bool → Bool → Bool} {p q : Pt}
theorem mx_l {a b : Int} : a ≤ mx a b := by unfold mx; split <;> omega
theorem mx_r {a b : Int} : b ≤ mx a b := by unfold mx; split <;> omega
theorem mx_le {a b c : Int} (h1 : a ≤ c) (h2 : b ≤ c) : mx a b ≤ c := by unfold mx; split <;> omega
theorem jn_ok (k : Ok p) (k' : Ok q) (h : lc p.per q.per ≤ 2000) : Ok (jn w p q) := mk_ok (Int.le_trans k.f0 mx_l) (mx_le k.f1 k'.f1) (lc_pos k.p0 k'.p0) h
theorem jn_has (k : Ok p) (k' : Ok q) {n : Int} (hn : 0 ≤ n) : has (jn w p q) n = w (has p n) (has q n) := by
  have := lc_pos k.p0 k'.p0
  refine mk_has (lc_pos k.p0 k'.p0) (fun n hn => ?_) hn
  rw [has_period (lc_l k.p0 k'.p0) (Int.le_trans mx_l hn) (by omega), has_period (lc_r k.p0 k'.p0) (Int.le_trans mx_r hn) (by omega)]
/-- all others -/
def inv (p : Pt) : Pt := ⟨(upto 0 p.fst.toNat).filter fun n => !decide (n ∈ p.few), p.fst, p.per, (upto 0 p.per.toNat).filter fun n => !decide (n ∈ p.rst)⟩
theorem inv_ok (k : Ok p) : Ok (inv p) := by
  have f0 := k.f0; have p0 := k.p0
  refine ⟨k.f0, k.f1, k.p0, k.p1, (ints_asc _ _).filter _, fun x hx => ?_, (ints_asc _ _).filter _, fun x hx => ?_⟩
  · have := mem_ints.mp (List.mem_filter.mp hx).1
    show 0 ≤ x ∧ x < p.fst
    omega
  · have := mem_ints.mp (List.mem_filter.mp hx).1
    show 0 ≤ x ∧ x < p.per
    omega
theorem inv_has (k : Ok p) {n : Int} (hn : 0 ≤ n) : has (inv p) n = !has p n := by
  have f0 := k.f0; have p0 := k.p0
  unfold has
  show (if n < p.fst then decide (n ∈ (upto 0 p.fst.toNat).filter fun n => !decide (n ∈ p.few)) else decide (n % p.per ∈ (upto 0 p.per.toNat).filter fun n => !decide (n ∈ p.rst))) = _
  have a := Int.emod_nonneg n (show p.per ≠ 0 by omega)
  have b := Int.emod_lt_of_pos n (show 0 < p.per by omega)
  split
  · rw [Bool.eq_iff_iff, decide_eq_true_eq, List.mem_filter, mem_ints]
    constructor
    · exact fun z => z.2
    · exact fun z => ⟨⟨hn, by omega⟩, z⟩
  · rw [Bool.eq_iff_iff, decide_eq_true_eq, List.mem_filter, mem_ints]
    constructor
    · exact fun z => z.2
    · exact fun z => ⟨⟨a, by omega⟩, z⟩
/-- some member -/
theorem some_mem (k : Ok p) : 0 < p.few.length + p.rst.length ↔ ∃ n, 0 ≤ n ∧ has p n = true := by
  have f0 := k.f0; have p0 := k.p0
  constructor
  · intro h
    by_cases hf : p.few = []
    · cases hr : p.rst with
      | nil => rw [hf, hr] at h; simp at h
      | cons r l =>
        have hb := k.rb r (by rw [hr]; exact List.mem_cons_self)
        have a := Int.emod_nonneg (r - p.fst) (show p.per ≠ 0 by omega)
        refine ⟨p.fst + (r - p.fst) % p.per, by omega, ?_⟩
        unfold has
        rw [if_neg (by omega), Int.add_emod_emod, show p.fst + (r - p.fst) = r by omega, Int.emod_eq_of_lt hb.1 hb.2, hr]
        exact decide_eq_true List.mem_cons_self
    · obtain ⟨x, hx⟩ := List.exists_mem_of_ne_nil _ hf
      have hb := k.fb x hx
      refine ⟨x, hb.1, ?_⟩
      unfold has
      rw [if_pos hb.2]
      exact decide_eq_true hx
  · rintro ⟨n, hn, h⟩
    unfold has at h
    split at h
    · have := List.length_pos_of_mem (of_decide_eq_true h)
      omega
    · have := List.length_pos_of_mem (of_decide_eq_true h)
      omega
end
/-! ### with periods that divide 60 -/
structure Sm (B : Int) (p : Pt) : Prop where
  ok : Ok p
  fB : p.fst ≤ B
  d60 : p.per ∣ 60
theorem Small.sm {p : Pt} (s : Small p) : Sm 9 p := ⟨s.ok, s.f9, Int.dvd_of_emod_eq_zero s.d60⟩
section
variable {w : Bool → Bool → Bool} {p q : Pt} {B : Int}
theorem Sm.p60 (s : Sm B p) : p.per ≤ 60 := Int.le_of_dvd (by decide) s.d60
theorem Sm.mono {B' : Int} (s : Sm B p) (h : B ≤ B') : Sm B' p := ⟨s.ok, Int.le_trans s.fB h, s.d60⟩
theorem Sm.lcm (s : Sm B p) (t : Sm B q) : lc p.per q.per ∣ 60 := lc_dvd (n := 60) s.ok.p0 t.ok.p0 s.d60 t.d60
theorem Sm.l60 (s : Sm B p) (t : Sm B q) : lc p.per q.per ≤ 60 := Int.le_of_dvd (by decide) (s.lcm t)
theorem Sm.canon (s : Sm B p) : Sm B (canon p) := ⟨canon_ok s.ok, Int.le_trans (canon_first s.ok).2 s.fB, Int.dvd_trans (Int.dvd_of_emod_eq_zero (canon_per s.ok).2.2) s.d60⟩
theorem Sm.jn (s : Sm B p) (t : Sm B q) : Sm B (jn w p q) := ⟨jn_ok s.ok t.ok (by have := s.l60 t; omega), mx_le s.fB t.fB, s.lcm t⟩
theorem Sm.inv (s : Sm B p) : Sm B (inv p) := ⟨inv_ok s.ok, s.fB, s.d60⟩
theorem Sm.back (s : Sm B p) {n : Int} (hB : 0 ≤ B) (h : B ≤ n) : has p n = has p (B + (n - B) % 60) := by
  have a := Int.emod_nonneg (n - B) (show (60 : Int) ≠ 0 by omega)
  have f := s.fB
  unfold has
  rw [if_neg (by omega), if_neg (by omega)]
  have e : (B + (n - B) % 60) % 60 = n % 60 := by
    rw [Int.add_emod_emod, show B + (n - B) = n by omega]
  rw [← Int.emod_emod_of_dvd n s.d60, ← e, Int.emod_emod_of_dvd _ s.d60]
/-- all told by the numbers below B + 60 -/
theorem Sm.near {P : Bool → Prop} (s : Sm B p) (hB : 0 ≤ B) {N : Int} (hN : B + 60 ≤ N) (h : ∀ n, 0 ≤ n → n < N → P (has p n)) {n : Int} (hn : 0 ≤ n) : P (has p n) := by
  by_cases hf : n < N
  · exact h n hn hf
  · have a := Int.emod_nonneg (n - B) (show (60 : Int) ≠ 0 by omega)
    have b := Int.emod_lt_of_pos (n - B) (show (0 : Int) < 60 by omega)
    rw [s.back hB (by omega)]
    exact h _ (by omega) (by omega)
end
theorem ptEq_canon {p p' : Pt} (k : Ok p) (k' : Ok p') (h : ∀ n, 0 ≤ n → has p n = has p' n) : canon p = canon p' := canon_uniq k k' h
end Lim

namespace K03
open PySem PySem.Spec PyProof.Rows L2 Dz
open Lim
theorem iL (p : Pt) : insL p = .ins "Limits" (insF p) := rfl
theorem ow_in : (Ty.ow "Limits") ∈ tys_Limits := by decide
theorem fld_per {p : Pt} {S : Sto} {Q : Vl → Sto → Prop} : wp (fld ["Limits"] "own_period" (.d (insL p))) S Q ↔ Q (.d (.int p.per)) S := w_fldD (by decide) rfl
theorem fld_fst {p : Pt} {S : Sto} {Q : Vl → Sto → Prop} : wp (fld ["Limits"] "own_first" (.d (insL p))) S Q ↔ Q (.d (.int p.fst)) S := w_fldD (by decide) rfl
theorem fld_few {p : Pt} {S : Sto} {Q : Vl → Sto → Prop} : wp (fld ["Limits"] "own_few" (.d (insL p))) S Q ↔ Q (.d (.tup (p.few.map D.int))) S := w_fldD (by decide) rfl
theorem fld_rst {p : Pt} {S : Sto} {Q : Vl → Sto → Prop} : wp (fld ["Limits"] "own_rests" (.d (insL p))) S Q ↔ Q (.d (.tup (p.rst.map D.int))) S := w_fldD (by decide) rfl
section
variable {p q : Pt}
theorem ne_s : dunNe "Limits" tys_Limits f_Limits___eq__ cNeX (.d (insL p)) (.d (insL q)) = pur (.d (.bl (!ptEq p q))) := by
  rw [iL, iL, dunNe_ins (t := .ow "Limits") rfl ow_in, ← iL, ← iL, eq_eq, noE_pur, bnd_ret]; rfl
theorem eq_s {g : Vl → Vl → M Vl} : dunEq "Limits" tys_Limits f_Limits___eq__ g (.d (insL p)) (.d (insL q)) = pur (.d (.bl (ptEq p q))) := by
  rw [iL, iL, dunEq_ins (t := .ow "Limits") rfl ow_in, ← iL, ← iL, eq_eq, noE_pur]
theorem in_s (s : 1 ≤ p.per) {n : Int} (h0 : 0 ≤ n) (h1 : n < c_TOP) : dunIn "Limits" f_Limits___contains__ cIn2 (.d (.int n)) (.d (insL p)) = pur (.d (.bl (has p n))) := by
  rw [iL, dunIn_ins, ← iL, contains_eq s h0 h1, noE_pur, bnd_ret]; rfl
theorem isM_s {m : Str} (h : (insF p).lookup m = none) {S : Sto} {Q : Unit → Sto → Prop} : wp (isM "Limits" m (.d (insL p))) S Q ↔ Q () S := by rw [iL]; exact w_isM h
theorem isI_s {S : Sto} {Q : Unit → Sto → Prop} : wp (isI "Limits" (.d (insL p))) S Q ↔ Q () S := w_isI
theorem bool_s : tBoolX "Limits" f_Limits___bool__ tBool0 [.d (insL p)] = pur (.d (.bl (decide (0 < p.few.length + p.rst.length)))) := by
  rw [iL, tBoolX_ins, ← iL, bool_eq, noE_pur, bnd_ret]; rfl
end
section
variable {p : Pt} {S : Sto} {Q : Vl → Sto → Prop}
theorem pr0 : wp (gIx (.d (prtD p)) (.d (.int 0))) S Q ↔ Q (.d (.tup (p.few.map D.int))) S := w_ixL (i := 0) rfl
theorem pr1 : wp (gIx (.d (prtD p)) (.d (.int 1))) S Q ↔ Q (.d (.int p.fst)) S := w_ixL (i := 1) rfl
theorem pr2 : wp (gIx (.d (prtD p)) (.d (.int 2))) S Q ↔ Q (.d (.int p.per)) S := w_ixL (i := 2) rfl
theorem pr3 : wp (gIx (.d (prtD p)) (.d (.int 3))) S Q ↔ Q (.d (.tup (p.rst.map D.int))) S := w_ixL (i := 3) rfl
end
theorem ne_nil : cNeX (.d (.lst [])) (.d (.lst [])) = pur (.d (.bl false)) := pur_wp fun S Q z => (w_neL (ns := []) (ms := [])).mpr z
theorem eq_nilL {l : List Int} {S : Sto} {Q : Vl → Sto → Prop} : wp (cEqX (.d (.lst (l.map D.int))) (.d (.lst []))) S Q ↔ Q (.d (.bl (decide (l = [])))) S := w_eqL (ms := [])
theorem ne_nilL {l : List Int} {S : Sto} {Q : Vl → Sto → Prop} : wp (cNeX (.d (.lst (l.map D.int))) (.d (.lst []))) S Q ↔ Q (.d (.bl (!decide (l = [])))) S := w_neL (ms := [])
theorem eq_nilT {l : List Int} {S : Sto} {Q : Vl → Sto → Prop} : wp (cEqX (.d (.tup (l.map D.int))) (.d (.tup []))) S Q ↔ Q (.d (.bl (decide (l = [])))) S := w_eqT (ms := [])
end K03

namespace K03
open PySem PySem.Spec PyProof.Rows L2 Dz
open Lim
/-! ### the greatest divisor -/
theorem gd_loop : ∀ (k y x : Nat), y < k → whL (eTest (eOp cNeX (eVar 1) (eC (.int 0)))) (sPar 0 1 (aCons (eVar 1) (aCons (eOp opMod (eVar 0) (eVar 1)) (aNil)))) k [some (.d (.int x)), some (.d (.int y))] = pur (.nx [some (.d (.int (Nat.gcd x y : Nat))), some (.d (.int 0))])
  | 0, y, x, h => absurd h (Nat.not_lt_zero _)
  | k + 1, y, x, h => pur_wp fun S Q q => by
    unfold whL
    rw [wp_bnd]
    (try simp (maxSteps := 4000000) (disch := first | omega | decide | assumption | (simp only [List.length_cons, List.length_nil, Nat.reduceAdd, Nat.reduceLeDiff]; done) | (simp only [List.length_cons, List.length_nil, List.length_map, Dz.ints_len]; omega)) only [Dz.wp_noE, Dz.noE_pur, Dz.w_var, Dz.w_c, Dz.w_op, Dz.w_ix, Dz.w_un, Dz.w_test, Dz.w_asB, Dz.w_not, Dz.w_and, Dz.w_or, Dz.w_if, Dz.w_sif, Dz.w_seq, Dz.after_nx, Dz.after_rt, Dz.w_next, Dz.w_ret, Dz.w_set, Dz.w_drop, Dz.w_put, Dz.w_nil, Dz.w_cons, Dz.w_cb, Dz.w_call, Dz.w_tup, Dz.w_lst, Dz.w_cell, Dz.w_for, Dz.w_of, Dz.w_rg, Dz.w_new, Dz.w_newC, Dz.w_lc, Dz.w_join, Dz.w_isS, Dz.w_chain, Dz.w_eand, Dz.w_eor, Dz.w_enot, Dz.w_ltS, Dz.w_leS, Dz.w_is, Dz.w_isnot, Dz.w_inS, Dz.w_rpr, Dz.w_itS, Dz.w_itL, Dz.w_itLs, Dz.w_itT, Dz.w_add, Dz.w_sub, Dz.w_neg, Dz.w_lt, Dz.w_le, Dz.w_gt, Dz.w_ge, Dz.w_int, Dz.w_intb, Dz.w_abs, Dz.w_max, Dz.w_min, Dz.w_lenL, Dz.w_lenT, Dz.w_lenR, Dz.wp_pur, Dz.startE, Dz.w_dtup, Dz.w_dlst, Dz.asDs_nil, Dz.asDs_cons, Dz.w_some, Dz.w_kTup, Dz.w_kLst, Dz.w_addL, Dz.w_addT, Dz.w_sl, Dz.w_oNone, Dz.w_oSome, Dz.w_asI, Dz.w_slL, Dz.w_slT, Dz.w_zp, Dz.w_itZL, Dz.w_itZT, Dz.w_rg3, Dz.w_par, Dz.w_asg, Dz.w_asD, Dz.w_fld, Dz.w_sfd, Dz.w_mk, Dz.w_pro, Dz.w_isI, Dz.w_met, Dz.w_ncb, Dz.w_tupL, Dz.w_tupT, Dz.w_listL, Dz.w_listT, Dz.w_sorted, Dz.w_minI, Dz.w_itA, Dz.w_itAt, Dz.w_itAs, Dz.w_itAz, Dz.w_inT, Dz.w_inL, Dz.w_niT, Dz.w_inD, Dz.w_eqS, Dz.w_neS, Dz.w_eqI, Dz.w_neI, Dz.w_eqB, Dz.w_neB, Dz.w_eqL, Dz.w_neL, Dz.w_eqT, Dz.w_neT, Dz.dunNe_str, Dz.dunNe_bl, Dz.dunNe_int, Dz.dunNe_lst, Dz.dunNe_tup, Dz.dunNe_non, Dz.dunEq_str, Dz.dunEq_bl, Dz.dunEq_int, Dz.dunEq_lst, Dz.dunEq_tup, Dz.dunEq_non, Dz.dunIn_ins, Dz.tBoolX_ins, Dz.w_notB, Dz.w_isB, Dz.wp_bnd, Dz.w_mod, Dz.w_div, Dz.w_itR, Dz.w_itR2, Dz.w_fldD, Dz.w_cm, Dz.w_mkL, Dz.w_isC, Dz.w_fldL, Dz.w_stL, Dz.w_len, Dz.dInts_ints, Dz.ints_len, Dz.w_asgL, Dz.wipeE, Dz.setAll, List.map_cons, List.map_nil, List.length_cons, List.length_nil, List.replicate, List.cons_append, List.nil_append, List.append_nil, List.getElem?_cons_zero, List.getElem?_cons_succ, List.set_cons_zero, List.set_cons_succ, Nat.reduceAdd, Nat.reduceSub, Nat.zero_add, Nat.sub_zero, Bool.not_true, Bool.not_false, if_true, if_false, Bool.false_eq_true, reduceIte, decide_eq_true_eq, Option.map_some, Nat.reduceLeDiff, List.length_map, List.foldl_cons, List.foldl_nil])
    by_cases hy : y = 0
    · subst hy
      rw [show (!((((0 : Nat) : Int)) == 0)) = false from rfl]
      rw [Nat.gcd_zero_right] at q
      exact wp_pur.mpr q
    · rw [show (!(((y : Nat) : Int) == 0)) = true by simp; omega]
      show wp (bnd (sPar 0 1 _ _) _) S Q
      rw [wp_bnd]
      (try simp (maxSteps := 4000000) (disch := first | omega | decide | assumption | (simp only [List.length_cons, List.length_nil, Nat.reduceAdd, Nat.reduceLeDiff]; done) | (simp only [List.length_cons, List.length_nil, List.length_map, Dz.ints_len]; omega)) only [Dz.wp_noE, Dz.noE_pur, Dz.w_var, Dz.w_c, Dz.w_op, Dz.w_ix, Dz.w_un, Dz.w_test, Dz.w_asB, Dz.w_not, Dz.w_and, Dz.w_or, Dz.w_if, Dz.w_sif, Dz.w_seq, Dz.after_nx, Dz.after_rt, Dz.w_next, Dz.w_ret, Dz.w_set, Dz.w_drop, Dz.w_put, Dz.w_nil, Dz.w_cons, Dz.w_cb, Dz.w_call, Dz.w_tup, Dz.w_lst, Dz.w_cell, Dz.w_for, Dz.w_of, Dz.w_rg, Dz.w_new, Dz.w_newC, Dz.w_lc, Dz.w_join, Dz.w_isS, Dz.w_chain, Dz.w_eand, Dz.w_eor, Dz.w_enot, Dz.w_ltS, Dz.w_leS, Dz.w_is, Dz.w_isnot, Dz.w_inS, Dz.w_rpr, Dz.w_itS, Dz.w_itL, Dz.w_itLs, Dz.w_itT, Dz.w_add, Dz.w_sub, Dz.w_neg, Dz.w_lt, Dz.w_le, Dz.w_gt, Dz.w_ge, Dz.w_int, Dz.w_intb, Dz.w_abs, Dz.w_max, Dz.w_min, Dz.w_lenL, Dz.w_lenT, Dz.w_lenR, Dz.wp_pur, Dz.startE, Dz.w_dtup, Dz.w_dlst, Dz.asDs_nil, Dz.asDs_cons, Dz.w_some, Dz.w_kTup, Dz.w_kLst, Dz.w_addL, Dz.w_addT, Dz.w_sl, Dz.w_oNone, Dz.w_oSome, Dz.w_asI, Dz.w_slL, Dz.w_slT, Dz.w_zp, Dz.w_itZL, Dz.w_itZT, Dz.w_rg3, Dz.w_par, Dz.w_asg, Dz.w_asD, Dz.w_fld, Dz.w_sfd, Dz.w_mk, Dz.w_pro, Dz.w_isI, Dz.w_met, Dz.w_ncb, Dz.w_tupL, Dz.w_tupT, Dz.w_listL, Dz.w_listT, Dz.w_sorted, Dz.w_minI, Dz.w_itA, Dz.w_itAt, Dz.w_itAs, Dz.w_itAz, Dz.w_inT, Dz.w_inL, Dz.w_niT, Dz.w_inD, Dz.w_eqS, Dz.w_neS, Dz.w_eqI, Dz.w_neI, Dz.w_eqB, Dz.w_neB, Dz.w_eqL, Dz.w_neL, Dz.w_eqT, Dz.w_neT, Dz.dunNe_str, Dz.dunNe_bl, Dz.dunNe_int, Dz.dunNe_lst, Dz.dunNe_tup, Dz.dunNe_non, Dz.dunEq_str, Dz.dunEq_bl, Dz.dunEq_int, Dz.dunEq_lst, Dz.dunEq_tup, Dz.dunEq_non, Dz.dunIn_ins, Dz.tBoolX_ins, Dz.w_notB, Dz.w_isB, Dz.wp_bnd, Dz.w_mod, Dz.w_div, Dz.w_itR, Dz.w_itR2, Dz.w_fldD, Dz.w_cm, Dz.w_mkL, Dz.w_isC, Dz.w_fldL, Dz.w_stL, Dz.w_len, Dz.dInts_ints, Dz.ints_len, Dz.w_asgL, Dz.wipeE, Dz.setAll, List.map_cons, List.map_nil, List.length_cons, List.length_nil, List.replicate, List.cons_append, List.nil_append, List.append_nil, List.getElem?_cons_zero, List.getElem?_cons_succ, List.set_cons_zero, List.set_cons_succ, Nat.reduceAdd, Nat.reduceSub, Nat.zero_add, Nat.sub_zero, Bool.not_true, Bool.not_false, if_true, if_false, Bool.false_eq_true, reduceIte, decide_eq_true_eq, Option.map_some, Nat.reduceLeDiff, List.length_map, List.foldl_cons, List.foldl_nil])
      have e : (x : Int) % (y : Int) = ((x % y : Nat) : Int) := by simp
      rw [e]
      refine wp_of (gd_loop k (x % y) y ?_) ?_
      · have := Nat.mod_lt x (show 0 < y by omega)
        omega
      · have g : Nat.gcd y (x % y) = Nat.gcd x y := by rw [Nat.gcd_comm x y, Nat.gcd_comm y (x % y)]; exact (Nat.gcd_rec y x).symm
        rw [g]
        exact q
theorem gd_eq {a b : Int} (ha : 1 ≤ a) (hb : 1 ≤ b) (h2 : b ≤ 2000) : f_greatest_divisor [.d (.int a), .d (.int b)] = pur (.d (.int (Nat.gcd a.toNat b.toNat : Nat))) := fn_by fun S Q q => by
  unfold b_greatest_divisor
  (try simp (maxSteps := 4000000) (disch := first | omega | decide | assumption | (simp only [List.length_cons, List.length_nil, Nat.reduceAdd, Nat.reduceLeDiff]; done) | (simp only [List.length_cons, List.length_nil, List.length_map, Dz.ints_len]; omega)) only [Dz.wp_noE, Dz.noE_pur, Dz.w_var, Dz.w_c, Dz.w_op, Dz.w_ix, Dz.w_un, Dz.w_test, Dz.w_asB, Dz.w_not, Dz.w_and, Dz.w_or, Dz.w_if, Dz.w_sif, Dz.w_seq, Dz.after_nx, Dz.after_rt, Dz.w_next, Dz.w_ret, Dz.w_set, Dz.w_drop, Dz.w_put, Dz.w_nil, Dz.w_cons, Dz.w_cb, Dz.w_call, Dz.w_tup, Dz.w_lst, Dz.w_cell, Dz.w_for, Dz.w_of, Dz.w_rg, Dz.w_new, Dz.w_newC, Dz.w_lc, Dz.w_join, Dz.w_isS, Dz.w_chain, Dz.w_eand, Dz.w_eor, Dz.w_enot, Dz.w_ltS, Dz.w_leS, Dz.w_is, Dz.w_isnot, Dz.w_inS, Dz.w_rpr, Dz.w_itS, Dz.w_itL, Dz.w_itLs, Dz.w_itT, Dz.w_add, Dz.w_sub, Dz.w_neg, Dz.w_lt, Dz.w_le, Dz.w_gt, Dz.w_ge, Dz.w_int, Dz.w_intb, Dz.w_abs, Dz.w_max, Dz.w_min, Dz.w_lenL, Dz.w_lenT, Dz.w_lenR, Dz.wp_pur, Dz.startE, Dz.w_dtup, Dz.w_dlst, Dz.asDs_nil, Dz.asDs_cons, Dz.w_some, Dz.w_kTup, Dz.w_kLst, Dz.w_addL, Dz.w_addT, Dz.w_sl, Dz.w_oNone, Dz.w_oSome, Dz.w_asI, Dz.w_slL, Dz.w_slT, Dz.w_zp, Dz.w_itZL, Dz.w_itZT, Dz.w_rg3, Dz.w_par, Dz.w_asg, Dz.w_asD, Dz.w_fld, Dz.w_sfd, Dz.w_mk, Dz.w_pro, Dz.w_isI, Dz.w_met, Dz.w_ncb, Dz.w_tupL, Dz.w_tupT, Dz.w_listL, Dz.w_listT, Dz.w_sorted, Dz.w_minI, Dz.w_itA, Dz.w_itAt, Dz.w_itAs, Dz.w_itAz, Dz.w_inT, Dz.w_inL, Dz.w_niT, Dz.w_inD, Dz.w_eqS, Dz.w_neS, Dz.w_eqI, Dz.w_neI, Dz.w_eqB, Dz.w_neB, Dz.w_eqL, Dz.w_neL, Dz.w_eqT, Dz.w_neT, Dz.dunNe_str, Dz.dunNe_bl, Dz.dunNe_int, Dz.dunNe_lst, Dz.dunNe_tup, Dz.dunNe_non, Dz.dunEq_str, Dz.dunEq_bl, Dz.dunEq_int, Dz.dunEq_lst, Dz.dunEq_tup, Dz.dunEq_non, Dz.dunIn_ins, Dz.tBoolX_ins, Dz.w_notB, Dz.w_isB, Dz.wp_bnd, Dz.w_mod, Dz.w_div, Dz.w_itR, Dz.w_itR2, Dz.w_fldD, Dz.w_cm, Dz.w_mkL, Dz.w_isC, Dz.w_fldL, Dz.w_stL, Dz.w_len, Dz.dInts_ints, Dz.ints_len, Dz.w_asgL, Dz.wipeE, Dz.setAll, List.map_cons, List.map_nil, List.length_cons, List.length_nil, List.replicate, List.cons_append, List.nil_append, List.append_nil, List.getElem?_cons_zero, List.getElem?_cons_succ, List.set_cons_zero, List.set_cons_succ, Nat.reduceAdd, Nat.reduceSub, Nat.zero_add, Nat.sub_zero, Bool.not_true, Bool.not_false, if_true, if_false, Bool.false_eq_true, reduceIte, decide_eq_true_eq, Option.map_some, Nat.reduceLeDiff, List.length_map, List.foldl_cons, List.foldl_nil])
  show wp (whL _ _ 100000 [some (.d (.int a)), some (.d (.int b))]) S _
  have h := gd_loop 100000 b.toNat a.toNat (by omega)
  rw [show ((a.toNat : Nat) : Int) = a by omega, show ((b.toNat : Nat) : Int) = b by omega] at h
  rw [h]
  (try simp (maxSteps := 4000000) (disch := first | omega | decide | assumption | (simp only [List.length_cons, List.length_nil, Nat.reduceAdd, Nat.reduceLeDiff]; done) | (simp only [List.length_cons, List.length_nil, List.length_map, Dz.ints_len]; omega)) only [Dz.wp_noE, Dz.noE_pur, Dz.w_var, Dz.w_c, Dz.w_op, Dz.w_ix, Dz.w_un, Dz.w_test, Dz.w_asB, Dz.w_not, Dz.w_and, Dz.w_or, Dz.w_if, Dz.w_sif, Dz.w_seq, Dz.after_nx, Dz.after_rt, Dz.w_next, Dz.w_ret, Dz.w_set, Dz.w_drop, Dz.w_put, Dz.w_nil, Dz.w_cons, Dz.w_cb, Dz.w_call, Dz.w_tup, Dz.w_lst, Dz.w_cell, Dz.w_for, Dz.w_of, Dz.w_rg, Dz.w_new, Dz.w_newC, Dz.w_lc, Dz.w_join, Dz.w_isS, Dz.w_chain, Dz.w_eand, Dz.w_eor, Dz.w_enot, Dz.w_ltS, Dz.w_leS, Dz.w_is, Dz.w_isnot, Dz.w_inS, Dz.w_rpr, Dz.w_itS, Dz.w_itL, Dz.w_itLs, Dz.w_itT, Dz.w_add, Dz.w_sub, Dz.w_neg, Dz.w_lt, Dz.w_le, Dz.w_gt, Dz.w_ge, Dz.w_int, Dz.w_intb, Dz.w_abs, Dz.w_max, Dz.w_min, Dz.w_lenL, Dz.w_lenT, Dz.w_lenR, Dz.wp_pur, Dz.startE, Dz.w_dtup, Dz.w_dlst, Dz.asDs_nil, Dz.asDs_cons, Dz.w_some, Dz.w_kTup, Dz.w_kLst, Dz.w_addL, Dz.w_addT, Dz.w_sl, Dz.w_oNone, Dz.w_oSome, Dz.w_asI, Dz.w_slL, Dz.w_slT, Dz.w_zp, Dz.w_itZL, Dz.w_itZT, Dz.w_rg3, Dz.w_par, Dz.w_asg, Dz.w_asD, Dz.w_fld, Dz.w_sfd, Dz.w_mk, Dz.w_pro, Dz.w_isI, Dz.w_met, Dz.w_ncb, Dz.w_tupL, Dz.w_tupT, Dz.w_listL, Dz.w_listT, Dz.w_sorted, Dz.w_minI, Dz.w_itA, Dz.w_itAt, Dz.w_itAs, Dz.w_itAz, Dz.w_inT, Dz.w_inL, Dz.w_niT, Dz.w_inD, Dz.w_eqS, Dz.w_neS, Dz.w_eqI, Dz.w_neI, Dz.w_eqB, Dz.w_neB, Dz.w_eqL, Dz.w_neL, Dz.w_eqT, Dz.w_neT, Dz.dunNe_str, Dz.dunNe_bl, Dz.dunNe_int, Dz.dunNe_lst, Dz.dunNe_tup, Dz.dunNe_non, Dz.dunEq_str, Dz.dunEq_bl, Dz.dunEq_int, Dz.dunEq_lst, Dz.dunEq_tup, Dz.dunEq_non, Dz.dunIn_ins, Dz.tBoolX_ins, Dz.w_notB, Dz.w_isB, Dz.wp_bnd, Dz.w_mod, Dz.w_div, Dz.w_itR, Dz.w_itR2, Dz.w_fldD, Dz.w_cm, Dz.w_mkL, Dz.w_isC, Dz.w_fldL, Dz.w_stL, Dz.w_len, Dz.dInts_ints, Dz.ints_len, Dz.w_asgL, Dz.wipeE, Dz.setAll, List.map_cons, List.map_nil, List.length_cons, List.length_nil, List.replicate, List.cons_append, List.nil_append, List.append_nil, List.getElem?_cons_zero, List.getElem?_cons_succ, List.set_cons_zero, List.set_cons_succ, Nat.reduceAdd, Nat.reduceSub, Nat.zero_add, Nat.sub_zero, Bool.not_true, Bool.not_false, if_true, if_false, Bool.false_eq_true, reduceIte, decide_eq_true_eq, Option.map_some, Nat.reduceLeDiff, List.length_map, List.foldl_cons, List.foldl_nil])
  exact q
theorem req_L (p : Pt) : f_require_limits [.d (insL p)] = pur (.d .non) := pur_wp fun S Q q => by
  apply wp_fnN
  unfold b_require_limits
  (try simp (maxSteps := 4000000) (disch := first | omega | decide | assumption | (simp only [List.length_cons, List.length_nil, Nat.reduceAdd, Nat.reduceLeDiff]; done) | (simp only [List.length_cons, List.length_nil, List.length_map, Dz.ints_len]; omega)) only [Dz.wp_noE, Dz.noE_pur, Dz.w_var, Dz.w_c, Dz.w_op, Dz.w_ix, Dz.w_un, Dz.w_test, Dz.w_asB, Dz.w_not, Dz.w_and, Dz.w_or, Dz.w_if, Dz.w_sif, Dz.w_seq, Dz.after_nx, Dz.after_rt, Dz.w_next, Dz.w_ret, Dz.w_set, Dz.w_drop, Dz.w_put, Dz.w_nil, Dz.w_cons, Dz.w_cb, Dz.w_call, Dz.w_tup, Dz.w_lst, Dz.w_cell, Dz.w_for, Dz.w_of, Dz.w_rg, Dz.w_new, Dz.w_newC, Dz.w_lc, Dz.w_join, Dz.w_isS, Dz.w_chain, Dz.w_eand, Dz.w_eor, Dz.w_enot, Dz.w_ltS, Dz.w_leS, Dz.w_is, Dz.w_isnot, Dz.w_inS, Dz.w_rpr, Dz.w_itS, Dz.w_itL, Dz.w_itLs, Dz.w_itT, Dz.w_add, Dz.w_sub, Dz.w_neg, Dz.w_lt, Dz.w_le, Dz.w_gt, Dz.w_ge, Dz.w_int, Dz.w_intb, Dz.w_abs, Dz.w_max, Dz.w_min, Dz.w_lenL, Dz.w_lenT, Dz.w_lenR, Dz.wp_pur, Dz.startE, Dz.w_dtup, Dz.w_dlst, Dz.asDs_nil, Dz.asDs_cons, Dz.w_some, Dz.w_kTup, Dz.w_kLst, Dz.w_addL, Dz.w_addT, Dz.w_sl, Dz.w_oNone, Dz.w_oSome, Dz.w_asI, Dz.w_slL, Dz.w_slT, Dz.w_zp, Dz.w_itZL, Dz.w_itZT, Dz.w_rg3, Dz.w_par, Dz.w_asg, Dz.w_asD, Dz.w_fld, Dz.w_sfd, Dz.w_mk, Dz.w_pro, Dz.w_isI, Dz.w_met, Dz.w_ncb, Dz.w_tupL, Dz.w_tupT, Dz.w_listL, Dz.w_listT, Dz.w_sorted, Dz.w_minI, Dz.w_itA, Dz.w_itAt, Dz.w_itAs, Dz.w_itAz, Dz.w_inT, Dz.w_inL, Dz.w_niT, Dz.w_inD, Dz.w_eqS, Dz.w_neS, Dz.w_eqI, Dz.w_neI, Dz.w_eqB, Dz.w_neB, Dz.w_eqL, Dz.w_neL, Dz.w_eqT, Dz.w_neT, Dz.dunNe_str, Dz.dunNe_bl, Dz.dunNe_int, Dz.dunNe_lst, Dz.dunNe_tup, Dz.dunNe_non, Dz.dunEq_str, Dz.dunEq_bl, Dz.dunEq_int, Dz.dunEq_lst, Dz.dunEq_tup, Dz.dunEq_non, Dz.dunIn_ins, Dz.tBoolX_ins, Dz.w_notB, Dz.w_isB, Dz.wp_bnd, Dz.w_mod, Dz.w_div, Dz.w_itR, Dz.w_itR2, Dz.w_fldD, Dz.w_cm, Dz.w_mkL, Dz.w_isC, Dz.w_fldL, Dz.w_stL, Dz.w_len, Dz.dInts_ints, Dz.ints_len, Dz.w_asgL, Dz.wipeE, Dz.setAll, List.map_cons, List.map_nil, List.length_cons, List.length_nil, List.replicate, List.cons_append, List.nil_append, List.append_nil, List.getElem?_cons_zero, List.getElem?_cons_succ, List.set_cons_zero, List.set_cons_succ, Nat.reduceAdd, Nat.reduceSub, Nat.zero_add, Nat.sub_zero, Bool.not_true, Bool.not_false, if_true, if_false, Bool.false_eq_true, reduceIte, decide_eq_true_eq, Option.map_some, Nat.reduceLeDiff, List.length_map, List.foldl_cons, List.foldl_nil, isi_L])
  exact ⟨⟨_, rfl⟩, by rw [List.take_length]; exact q⟩
/-! ### joined -/
def Wnt (wd : D) (w : Bool → Bool → Bool) : Prop := ∀ a b, cIn3 (.d (.tup [.bl a, .bl b])) (.d wd) = pur (.d (.bl (w a b)))
theorem wnt_and : Wnt c_BOTH fun a b => a && b := fun a b => by cases a <;> cases b <;> rfl
theorem wnt_or : Wnt c_ANY fun a b => a || b := fun a b => by cases a <;> cases b <;> rfl
theorem wnt_sub : Wnt c_ONE_ALONE fun a b => a && !b := fun a b => by cases a <;> cases b <;> rfl
theorem wnt_xor : Wnt c_JUST_ONE fun a b => a != b := fun a b => by cases a <;> cases b <;> rfl
theorem joined_eq {p q : Pt} {wd : D} {w : Bool → Bool → Bool} (kp : Ok p) (kq : Ok q) (hl : lc p.per q.per ≤ 2000) (hw : Wnt wd w) : f_joined [.d (insL p), .d (insL q), .d wd] = pur (.d (insL (canon (jn w p q)))) := fn_by fun S Q z => by
  have p0 := kp.p0; have p1 := kp.p1; have q0 := kq.p0; have q1 := kq.p1; have f0 := kp.f0; have f1 := kp.f1; have g0 := kq.f0; have g1 := kq.f1
  have l0 := lc_pos p0 q0
  have gp : 0 < Nat.gcd p.per.toNat q.per.toNat := Nat.gcd_pos_of_pos_left _ (by omega)
  have gl : Nat.gcd p.per.toNat q.per.toNat ≤ p.per.toNat := Nat.gcd_le_left _ (by omega)
  unfold b_joined
  (try simp (maxSteps := 4000000) (disch := first | omega | decide | assumption | (simp only [List.length_cons, List.length_nil, Nat.reduceAdd, Nat.reduceLeDiff]; done) | (simp only [List.length_cons, List.length_nil, List.length_map, Dz.ints_len]; omega)) only [Dz.wp_noE, Dz.noE_pur, Dz.w_var, Dz.w_c, Dz.w_op, Dz.w_ix, Dz.w_un, Dz.w_test, Dz.w_asB, Dz.w_not, Dz.w_and, Dz.w_or, Dz.w_if, Dz.w_sif, Dz.w_seq, Dz.after_nx, Dz.after_rt, Dz.w_next, Dz.w_ret, Dz.w_set, Dz.w_drop, Dz.w_put, Dz.w_nil, Dz.w_cons, Dz.w_cb, Dz.w_call, Dz.w_tup, Dz.w_lst, Dz.w_cell, Dz.w_for, Dz.w_of, Dz.w_rg, Dz.w_new, Dz.w_newC, Dz.w_lc, Dz.w_join, Dz.w_isS, Dz.w_chain, Dz.w_eand, Dz.w_eor, Dz.w_enot, Dz.w_ltS, Dz.w_leS, Dz.w_is, Dz.w_isnot, Dz.w_inS, Dz.w_rpr, Dz.w_itS, Dz.w_itL, Dz.w_itLs, Dz.w_itT, Dz.w_add, Dz.w_sub, Dz.w_neg, Dz.w_lt, Dz.w_le, Dz.w_gt, Dz.w_ge, Dz.w_int, Dz.w_intb, Dz.w_abs, Dz.w_max, Dz.w_min, Dz.w_lenL, Dz.w_lenT, Dz.w_lenR, Dz.wp_pur, Dz.startE, Dz.w_dtup, Dz.w_dlst, Dz.asDs_nil, Dz.asDs_cons, Dz.w_some, Dz.w_kTup, Dz.w_kLst, Dz.w_addL, Dz.w_addT, Dz.w_sl, Dz.w_oNone, Dz.w_oSome, Dz.w_asI, Dz.w_slL, Dz.w_slT, Dz.w_zp, Dz.w_itZL, Dz.w_itZT, Dz.w_rg3, Dz.w_par, Dz.w_asg, Dz.w_asD, Dz.w_fld, Dz.w_sfd, Dz.w_mk, Dz.w_pro, Dz.w_isI, Dz.w_met, Dz.w_ncb, Dz.w_tupL, Dz.w_tupT, Dz.w_listL, Dz.w_listT, Dz.w_sorted, Dz.w_minI, Dz.w_itA, Dz.w_itAt, Dz.w_itAs, Dz.w_itAz, Dz.w_inT, Dz.w_inL, Dz.w_niT, Dz.w_inD, Dz.w_eqS, Dz.w_neS, Dz.w_eqI, Dz.w_neI, Dz.w_eqB, Dz.w_neB, Dz.w_eqL, Dz.w_neL, Dz.w_eqT, Dz.w_neT, Dz.dunNe_str, Dz.dunNe_bl, Dz.dunNe_int, Dz.dunNe_lst, Dz.dunNe_tup, Dz.dunNe_non, Dz.dunEq_str, Dz.dunEq_bl, Dz.dunEq_int, Dz.dunEq_lst, Dz.dunEq_tup, Dz.dunEq_non, Dz.dunIn_ins, Dz.tBoolX_ins, Dz.w_notB, Dz.w_isB, Dz.wp_bnd, Dz.w_mod, Dz.w_div, Dz.w_itR, Dz.w_itR2, Dz.w_fldD, Dz.w_cm, Dz.w_mkL, Dz.w_isC, Dz.w_fldL, Dz.w_stL, Dz.w_len, Dz.dInts_ints, Dz.ints_len, Dz.w_asgL, Dz.wipeE, Dz.setAll, List.map_cons, List.map_nil, List.length_cons, List.length_nil, List.replicate, List.cons_append, List.nil_append, List.append_nil, List.getElem?_cons_zero, List.getElem?_cons_succ, List.set_cons_zero, List.set_cons_succ, Nat.reduceAdd, Nat.reduceSub, Nat.zero_add, Nat.sub_zero, Bool.not_true, Bool.not_false, if_true, if_false, Bool.false_eq_true, reduceIte, decide_eq_true_eq, Option.map_some, Nat.reduceLeDiff, List.length_map, List.foldl_cons, List.foldl_nil, req_L, fld_per, fld_fst, gd_eq])
  rw [w_mul_l ⟨by omega, by omega⟩]
  (try simp (maxSteps := 4000000) (disch := first | omega | decide | assumption | (simp only [List.length_cons, List.length_nil, Nat.reduceAdd, Nat.reduceLeDiff]; done) | (simp only [List.length_cons, List.length_nil, List.length_map, Dz.ints_len]; omega)) only [Dz.wp_noE, Dz.noE_pur, Dz.w_var, Dz.w_c, Dz.w_op, Dz.w_ix, Dz.w_un, Dz.w_test, Dz.w_asB, Dz.w_not, Dz.w_and, Dz.w_or, Dz.w_if, Dz.w_sif, Dz.w_seq, Dz.after_nx, Dz.after_rt, Dz.w_next, Dz.w_ret, Dz.w_set, Dz.w_drop, Dz.w_put, Dz.w_nil, Dz.w_cons, Dz.w_cb, Dz.w_call, Dz.w_tup, Dz.w_lst, Dz.w_cell, Dz.w_for, Dz.w_of, Dz.w_rg, Dz.w_new, Dz.w_newC, Dz.w_lc, Dz.w_join, Dz.w_isS, Dz.w_chain, Dz.w_eand, Dz.w_eor, Dz.w_enot, Dz.w_ltS, Dz.w_leS, Dz.w_is, Dz.w_isnot, Dz.w_inS, Dz.w_rpr, Dz.w_itS, Dz.w_itL, Dz.w_itLs, Dz.w_itT, Dz.w_add, Dz.w_sub, Dz.w_neg, Dz.w_lt, Dz.w_le, Dz.w_gt, Dz.w_ge, Dz.w_int, Dz.w_intb, Dz.w_abs, Dz.w_max, Dz.w_min, Dz.w_lenL, Dz.w_lenT, Dz.w_lenR, Dz.wp_pur, Dz.startE, Dz.w_dtup, Dz.w_dlst, Dz.asDs_nil, Dz.asDs_cons, Dz.w_some, Dz.w_kTup, Dz.w_kLst, Dz.w_addL, Dz.w_addT, Dz.w_sl, Dz.w_oNone, Dz.w_oSome, Dz.w_asI, Dz.w_slL, Dz.w_slT, Dz.w_zp, Dz.w_itZL, Dz.w_itZT, Dz.w_rg3, Dz.w_par, Dz.w_asg, Dz.w_asD, Dz.w_fld, Dz.w_sfd, Dz.w_mk, Dz.w_pro, Dz.w_isI, Dz.w_met, Dz.w_ncb, Dz.w_tupL, Dz.w_tupT, Dz.w_listL, Dz.w_listT, Dz.w_sorted, Dz.w_minI, Dz.w_itA, Dz.w_itAt, Dz.w_itAs, Dz.w_itAz, Dz.w_inT, Dz.w_inL, Dz.w_niT, Dz.w_inD, Dz.w_eqS, Dz.w_neS, Dz.w_eqI, Dz.w_neI, Dz.w_eqB, Dz.w_neB, Dz.w_eqL, Dz.w_neL, Dz.w_eqT, Dz.w_neT, Dz.dunNe_str, Dz.dunNe_bl, Dz.dunNe_int, Dz.dunNe_lst, Dz.dunNe_tup, Dz.dunNe_non, Dz.dunEq_str, Dz.dunEq_bl, Dz.dunEq_int, Dz.dunEq_lst, Dz.dunEq_tup, Dz.dunEq_non, Dz.dunIn_ins, Dz.tBoolX_ins, Dz.w_notB, Dz.w_isB, Dz.wp_bnd, Dz.w_mod, Dz.w_div, Dz.w_itR, Dz.w_itR2, Dz.w_fldD, Dz.w_cm, Dz.w_mkL, Dz.w_isC, Dz.w_fldL, Dz.w_stL, Dz.w_len, Dz.dInts_ints, Dz.ints_len, Dz.w_asgL, Dz.wipeE, Dz.setAll, List.map_cons, List.map_nil, List.length_cons, List.length_nil, List.replicate, List.cons_append, List.nil_append, List.append_nil, List.getElem?_cons_zero, List.getElem?_cons_succ, List.set_cons_zero, List.set_cons_succ, Nat.reduceAdd, Nat.reduceSub, Nat.zero_add, Nat.sub_zero, Bool.not_true, Bool.not_false, if_true, if_false, Bool.false_eq_true, reduceIte, decide_eq_true_eq, Option.map_some, Nat.reduceLeDiff, List.length_map, List.foldl_cons, List.foldl_nil, req_L, fld_per, fld_fst, gd_eq])
  rw [show p.per * q.per / ((Nat.gcd p.per.toNat q.per.toNat : Nat) : Int) = lc p.per q.per from rfl]
  rw [if_neg (show ¬ (c_MAX_PERIOD : Int) < lc p.per q.per by show ¬ (2000 : Int) < _; omega)]
  (try simp (maxSteps := 4000000) (disch := first | omega | decide | assumption | (simp only [List.length_cons, List.length_nil, Nat.reduceAdd, Nat.reduceLeDiff]; done) | (simp only [List.length_cons, List.length_nil, List.length_map, Dz.ints_len]; omega)) only [Dz.wp_noE, Dz.noE_pur, Dz.w_var, Dz.w_c, Dz.w_op, Dz.w_ix, Dz.w_un, Dz.w_test, Dz.w_asB, Dz.w_not, Dz.w_and, Dz.w_or, Dz.w_if, Dz.w_sif, Dz.w_seq, Dz.after_nx, Dz.after_rt, Dz.w_next, Dz.w_ret, Dz.w_set, Dz.w_drop, Dz.w_put, Dz.w_nil, Dz.w_cons, Dz.w_cb, Dz.w_call, Dz.w_tup, Dz.w_lst, Dz.w_cell, Dz.w_for, Dz.w_of, Dz.w_rg, Dz.w_new, Dz.w_newC, Dz.w_lc, Dz.w_join, Dz.w_isS, Dz.w_chain, Dz.w_eand, Dz.w_eor, Dz.w_enot, Dz.w_ltS, Dz.w_leS, Dz.w_is, Dz.w_isnot, Dz.w_inS, Dz.w_rpr, Dz.w_itS, Dz.w_itL, Dz.w_itLs, Dz.w_itT, Dz.w_add, Dz.w_sub, Dz.w_neg, Dz.w_lt, Dz.w_le, Dz.w_gt, Dz.w_ge, Dz.w_int, Dz.w_intb, Dz.w_abs, Dz.w_max, Dz.w_min, Dz.w_lenL, Dz.w_lenT, Dz.w_lenR, Dz.wp_pur, Dz.startE, Dz.w_dtup, Dz.w_dlst, Dz.asDs_nil, Dz.asDs_cons, Dz.w_some, Dz.w_kTup, Dz.w_kLst, Dz.w_addL, Dz.w_addT, Dz.w_sl, Dz.w_oNone, Dz.w_oSome, Dz.w_asI, Dz.w_slL, Dz.w_slT, Dz.w_zp, Dz.w_itZL, Dz.w_itZT, Dz.w_rg3, Dz.w_par, Dz.w_asg, Dz.w_asD, Dz.w_fld, Dz.w_sfd, Dz.w_mk, Dz.w_pro, Dz.w_isI, Dz.w_met, Dz.w_ncb, Dz.w_tupL, Dz.w_tupT, Dz.w_listL, Dz.w_listT, Dz.w_sorted, Dz.w_minI, Dz.w_itA, Dz.w_itAt, Dz.w_itAs, Dz.w_itAz, Dz.w_inT, Dz.w_inL, Dz.w_niT, Dz.w_inD, Dz.w_eqS, Dz.w_neS, Dz.w_eqI, Dz.w_neI, Dz.w_eqB, Dz.w_neB, Dz.w_eqL, Dz.w_neL, Dz.w_eqT, Dz.w_neT, Dz.dunNe_str, Dz.dunNe_bl, Dz.dunNe_int, Dz.dunNe_lst, Dz.dunNe_tup, Dz.dunNe_non, Dz.dunEq_str, Dz.dunEq_bl, Dz.dunEq_int, Dz.dunEq_lst, Dz.dunEq_tup, Dz.dunEq_non, Dz.dunIn_ins, Dz.tBoolX_ins, Dz.w_notB, Dz.w_isB, Dz.wp_bnd, Dz.w_mod, Dz.w_div, Dz.w_itR, Dz.w_itR2, Dz.w_fldD, Dz.w_cm, Dz.w_mkL, Dz.w_isC, Dz.w_fldL, Dz.w_stL, Dz.w_len, Dz.dInts_ints, Dz.ints_len, Dz.w_asgL, Dz.wipeE, Dz.setAll, List.map_cons, List.map_nil, List.length_cons, List.length_nil, List.replicate, List.cons_append, List.nil_append, List.append_nil, List.getElem?_cons_zero, List.getElem?_cons_succ, List.set_cons_zero, List.set_cons_succ, Nat.reduceAdd, Nat.reduceSub, Nat.zero_add, Nat.sub_zero, Bool.not_true, Bool.not_false, if_true, if_false, Bool.false_eq_true, reduceIte, decide_eq_true_eq, Option.map_some, Nat.reduceLeDiff, List.length_map, List.foldl_cons, List.foldl_nil, fld_fst])
  rw [show (if q.fst > p.fst then q.fst else p.fst) = mx p.fst q.fst from rfl]
  have m0 : 0 ≤ mx p.fst q.fst := Int.le_trans f0 mx_l
  have m1 : mx p.fst q.fst ≤ 2000 := mx_le f1 g1
  generalize hF : mx p.fst q.fst = F at *
  generalize hL : lc p.per q.per = L at *
  (try simp (maxSteps := 4000000) (disch := first | omega | decide | assumption | (simp only [List.length_cons, List.length_nil, Nat.reduceAdd, Nat.reduceLeDiff]; done) | (simp only [List.length_cons, List.length_nil, List.length_map, Dz.ints_len]; omega)) only [Dz.wp_noE, Dz.noE_pur, Dz.w_var, Dz.w_c, Dz.w_op, Dz.w_ix, Dz.w_un, Dz.w_test, Dz.w_asB, Dz.w_not, Dz.w_and, Dz.w_or, Dz.w_if, Dz.w_sif, Dz.w_seq, Dz.after_nx, Dz.after_rt, Dz.w_next, Dz.w_ret, Dz.w_set, Dz.w_drop, Dz.w_put, Dz.w_nil, Dz.w_cons, Dz.w_cb, Dz.w_call, Dz.w_tup, Dz.w_lst, Dz.w_cell, Dz.w_for, Dz.w_of, Dz.w_rg, Dz.w_new, Dz.w_newC, Dz.w_lc, Dz.w_join, Dz.w_isS, Dz.w_chain, Dz.w_eand, Dz.w_eor, Dz.w_enot, Dz.w_ltS, Dz.w_leS, Dz.w_is, Dz.w_isnot, Dz.w_inS, Dz.w_rpr, Dz.w_itS, Dz.w_itL, Dz.w_itLs, Dz.w_itT, Dz.w_add, Dz.w_sub, Dz.w_neg, Dz.w_lt, Dz.w_le, Dz.w_gt, Dz.w_ge, Dz.w_int, Dz.w_intb, Dz.w_abs, Dz.w_max, Dz.w_min, Dz.w_lenL, Dz.w_lenT, Dz.w_lenR, Dz.wp_pur, Dz.startE, Dz.w_dtup, Dz.w_dlst, Dz.asDs_nil, Dz.asDs_cons, Dz.w_some, Dz.w_kTup, Dz.w_kLst, Dz.w_addL, Dz.w_addT, Dz.w_sl, Dz.w_oNone, Dz.w_oSome, Dz.w_asI, Dz.w_slL, Dz.w_slT, Dz.w_zp, Dz.w_itZL, Dz.w_itZT, Dz.w_rg3, Dz.w_par, Dz.w_asg, Dz.w_asD, Dz.w_fld, Dz.w_sfd, Dz.w_mk, Dz.w_pro, Dz.w_isI, Dz.w_met, Dz.w_ncb, Dz.w_tupL, Dz.w_tupT, Dz.w_listL, Dz.w_listT, Dz.w_sorted, Dz.w_minI, Dz.w_itA, Dz.w_itAt, Dz.w_itAs, Dz.w_itAz, Dz.w_inT, Dz.w_inL, Dz.w_niT, Dz.w_inD, Dz.w_eqS, Dz.w_neS, Dz.w_eqI, Dz.w_neI, Dz.w_eqB, Dz.w_neB, Dz.w_eqL, Dz.w_neL, Dz.w_eqT, Dz.w_neT, Dz.dunNe_str, Dz.dunNe_bl, Dz.dunNe_int, Dz.dunNe_lst, Dz.dunNe_tup, Dz.dunNe_non, Dz.dunEq_str, Dz.dunEq_bl, Dz.dunEq_int, Dz.dunEq_lst, Dz.dunEq_tup, Dz.dunEq_non, Dz.dunIn_ins, Dz.tBoolX_ins, Dz.w_notB, Dz.w_isB, Dz.wp_bnd, Dz.w_mod, Dz.w_div, Dz.w_itR, Dz.w_itR2, Dz.w_fldD, Dz.w_cm, Dz.w_mkL, Dz.w_isC, Dz.w_fldL, Dz.w_stL, Dz.w_len, Dz.dInts_ints, Dz.ints_len, Dz.w_asgL, Dz.wipeE, Dz.setAll, List.map_cons, List.map_nil, List.length_cons, List.length_nil, List.replicate, List.cons_append, List.nil_append, List.append_nil, List.getElem?_cons_zero, List.getElem?_cons_succ, List.set_cons_zero, List.set_cons_succ, Nat.reduceAdd, Nat.reduceSub, Nat.zero_add, Nat.sub_zero, Bool.not_true, Bool.not_false, if_true, if_false, Bool.false_eq_true, reduceIte, decide_eq_true_eq, Option.map_some, Nat.reduceLeDiff, List.length_map, List.foldl_cons, List.foldl_nil])
  rw [lcL_ints (b := fun n => w (has p n) (has q n)) (v := D.int) _ fun n hn => ⟨pur_wp fun S Q z => by
    show wp (eTest _ [some (.d (insL p)), some (.d (insL q)), some (.d wd), some (.d (.int L)), some (.d (.int F)), none, none, some (.d (.int n)), none]) S Q
    (try simp (maxSteps := 4000000) (disch := first | omega | decide | assumption | (simp only [List.length_cons, List.length_nil, Nat.reduceAdd, Nat.reduceLeDiff]; done) | (simp only [List.length_cons, List.length_nil, List.length_map, Dz.ints_len]; omega)) only [Dz.wp_noE, Dz.noE_pur, Dz.w_var, Dz.w_c, Dz.w_op, Dz.w_ix, Dz.w_un, Dz.w_test, Dz.w_asB, Dz.w_not, Dz.w_and, Dz.w_or, Dz.w_if, Dz.w_sif, Dz.w_seq, Dz.after_nx, Dz.after_rt, Dz.w_next, Dz.w_ret, Dz.w_set, Dz.w_drop, Dz.w_put, Dz.w_nil, Dz.w_cons, Dz.w_cb, Dz.w_call, Dz.w_tup, Dz.w_lst, Dz.w_cell, Dz.w_for, Dz.w_of, Dz.w_rg, Dz.w_new, Dz.w_newC, Dz.w_lc, Dz.w_join, Dz.w_isS, Dz.w_chain, Dz.w_eand, Dz.w_eor, Dz.w_enot, Dz.w_ltS, Dz.w_leS, Dz.w_is, Dz.w_isnot, Dz.w_inS, Dz.w_rpr, Dz.w_itS, Dz.w_itL, Dz.w_itLs, Dz.w_itT, Dz.w_add, Dz.w_sub, Dz.w_neg, Dz.w_lt, Dz.w_le, Dz.w_gt, Dz.w_ge, Dz.w_int, Dz.w_intb, Dz.w_abs, Dz.w_max, Dz.w_min, Dz.w_lenL, Dz.w_lenT, Dz.w_lenR, Dz.wp_pur, Dz.startE, Dz.w_dtup, Dz.w_dlst, Dz.asDs_nil, Dz.asDs_cons, Dz.w_some, Dz.w_kTup, Dz.w_kLst, Dz.w_addL, Dz.w_addT, Dz.w_sl, Dz.w_oNone, Dz.w_oSome, Dz.w_asI, Dz.w_slL, Dz.w_slT, Dz.w_zp, Dz.w_itZL, Dz.w_itZT, Dz.w_rg3, Dz.w_par, Dz.w_asg, Dz.w_asD, Dz.w_fld, Dz.w_sfd, Dz.w_mk, Dz.w_pro, Dz.w_isI, Dz.w_met, Dz.w_ncb, Dz.w_tupL, Dz.w_tupT, Dz.w_listL, Dz.w_listT, Dz.w_sorted, Dz.w_minI, Dz.w_itA, Dz.w_itAt, Dz.w_itAs, Dz.w_itAz, Dz.w_inT, Dz.w_inL, Dz.w_niT, Dz.w_inD, Dz.w_eqS, Dz.w_neS, Dz.w_eqI, Dz.w_neI, Dz.w_eqB, Dz.w_neB, Dz.w_eqL, Dz.w_neL, Dz.w_eqT, Dz.w_neT, Dz.dunNe_str, Dz.dunNe_bl, Dz.dunNe_int, Dz.dunNe_lst, Dz.dunNe_tup, Dz.dunNe_non, Dz.dunEq_str, Dz.dunEq_bl, Dz.dunEq_int, Dz.dunEq_lst, Dz.dunEq_tup, Dz.dunEq_non, Dz.dunIn_ins, Dz.tBoolX_ins, Dz.w_notB, Dz.w_isB, Dz.wp_bnd, Dz.w_mod, Dz.w_div, Dz.w_itR, Dz.w_itR2, Dz.w_fldD, Dz.w_cm, Dz.w_mkL, Dz.w_isC, Dz.w_fldL, Dz.w_stL, Dz.w_len, Dz.dInts_ints, Dz.ints_len, Dz.w_asgL, Dz.wipeE, Dz.setAll, List.map_cons, List.map_nil, List.length_cons, List.length_nil, List.replicate, List.cons_append, List.nil_append, List.append_nil, List.getElem?_cons_zero, List.getElem?_cons_succ, List.set_cons_zero, List.set_cons_succ, Nat.reduceAdd, Nat.reduceSub, Nat.zero_add, Nat.sub_zero, Bool.not_true, Bool.not_false, if_true, if_false, Bool.false_eq_true, reduceIte, decide_eq_true_eq, Option.map_some, Nat.reduceLeDiff, List.length_map, List.foldl_cons, List.foldl_nil, has_number_eq, hw _ _])
    exact z, fun _ => rfl⟩, wp_pur]
  have hlen : ((upto 0 (F + L).toNat).filter fun n => w (has p n) (has q n)).length ≤ 4000 := Nat.le_trans (List.length_filter_le _ _) (by rw [ints_len]; omega)
  (try simp (maxSteps := 4000000) (disch := first | omega | decide | assumption | (simp only [List.length_cons, List.length_nil, Nat.reduceAdd, Nat.reduceLeDiff]; done) | (simp only [List.length_cons, List.length_nil, List.length_map, Dz.ints_len]; omega)) only [Dz.wp_noE, Dz.noE_pur, Dz.w_var, Dz.w_c, Dz.w_op, Dz.w_ix, Dz.w_un, Dz.w_test, Dz.w_asB, Dz.w_not, Dz.w_and, Dz.w_or, Dz.w_if, Dz.w_sif, Dz.w_seq, Dz.after_nx, Dz.after_rt, Dz.w_next, Dz.w_ret, Dz.w_set, Dz.w_drop, Dz.w_put, Dz.w_nil, Dz.w_cons, Dz.w_cb, Dz.w_call, Dz.w_tup, Dz.w_lst, Dz.w_cell, Dz.w_for, Dz.w_of, Dz.w_rg, Dz.w_new, Dz.w_newC, Dz.w_lc, Dz.w_join, Dz.w_isS, Dz.w_chain, Dz.w_eand, Dz.w_eor, Dz.w_enot, Dz.w_ltS, Dz.w_leS, Dz.w_is, Dz.w_isnot, Dz.w_inS, Dz.w_rpr, Dz.w_itS, Dz.w_itL, Dz.w_itLs, Dz.w_itT, Dz.w_add, Dz.w_sub, Dz.w_neg, Dz.w_lt, Dz.w_le, Dz.w_gt, Dz.w_ge, Dz.w_int, Dz.w_intb, Dz.w_abs, Dz.w_max, Dz.w_min, Dz.w_lenL, Dz.w_lenT, Dz.w_lenR, Dz.wp_pur, Dz.startE, Dz.w_dtup, Dz.w_dlst, Dz.asDs_nil, Dz.asDs_cons, Dz.w_some, Dz.w_kTup, Dz.w_kLst, Dz.w_addL, Dz.w_addT, Dz.w_sl, Dz.w_oNone, Dz.w_oSome, Dz.w_asI, Dz.w_slL, Dz.w_slT, Dz.w_zp, Dz.w_itZL, Dz.w_itZT, Dz.w_rg3, Dz.w_par, Dz.w_asg, Dz.w_asD, Dz.w_fld, Dz.w_sfd, Dz.w_mk, Dz.w_pro, Dz.w_isI, Dz.w_met, Dz.w_ncb, Dz.w_tupL, Dz.w_tupT, Dz.w_listL, Dz.w_listT, Dz.w_sorted, Dz.w_minI, Dz.w_itA, Dz.w_itAt, Dz.w_itAs, Dz.w_itAz, Dz.w_inT, Dz.w_inL, Dz.w_niT, Dz.w_inD, Dz.w_eqS, Dz.w_neS, Dz.w_eqI, Dz.w_neI, Dz.w_eqB, Dz.w_neB, Dz.w_eqL, Dz.w_neL, Dz.w_eqT, Dz.w_neT, Dz.dunNe_str, Dz.dunNe_bl, Dz.dunNe_int, Dz.dunNe_lst, Dz.dunNe_tup, Dz.dunNe_non, Dz.dunEq_str, Dz.dunEq_bl, Dz.dunEq_int, Dz.dunEq_lst, Dz.dunEq_tup, Dz.dunEq_non, Dz.dunIn_ins, Dz.tBoolX_ins, Dz.w_notB, Dz.w_isB, Dz.wp_bnd, Dz.w_mod, Dz.w_div, Dz.w_itR, Dz.w_itR2, Dz.w_fldD, Dz.w_cm, Dz.w_mkL, Dz.w_isC, Dz.w_fldL, Dz.w_stL, Dz.w_len, Dz.dInts_ints, Dz.ints_len, Dz.w_asgL, Dz.wipeE, Dz.setAll, List.map_cons, List.map_nil, List.length_cons, List.length_nil, List.replicate, List.cons_append, List.nil_append, List.append_nil, List.getElem?_cons_zero, List.getElem?_cons_succ, List.set_cons_zero, List.set_cons_succ, Nat.reduceAdd, Nat.reduceSub, Nat.zero_add, Nat.sub_zero, Bool.not_true, Bool.not_false, if_true, if_false, Bool.false_eq_true, reduceIte, decide_eq_true_eq, Option.map_some, Nat.reduceLeDiff, List.length_map, List.foldl_cons, List.foldl_nil])
  rw [lcL_ints (b := fun n => decide (F ≤ n)) (v := fun n => D.int (n % L)) _ fun n hn => ⟨pur_wp fun S Q z => by
    show wp (eTest _ [some (.d (insL p)), some (.d (insL q)), some (.d wd), some (.d (.int L)), some (.d (.int F)), some (.d (.lst _)), none, none, some (.d (.int n))]) S Q
    (try simp (maxSteps := 4000000) (disch := first | omega | decide | assumption | (simp only [List.length_cons, List.length_nil, Nat.reduceAdd, Nat.reduceLeDiff]; done) | (simp only [List.length_cons, List.length_nil, List.length_map, Dz.ints_len]; omega)) only [Dz.wp_noE, Dz.noE_pur, Dz.w_var, Dz.w_c, Dz.w_op, Dz.w_ix, Dz.w_un, Dz.w_test, Dz.w_asB, Dz.w_not, Dz.w_and, Dz.w_or, Dz.w_if, Dz.w_sif, Dz.w_seq, Dz.after_nx, Dz.after_rt, Dz.w_next, Dz.w_ret, Dz.w_set, Dz.w_drop, Dz.w_put, Dz.w_nil, Dz.w_cons, Dz.w_cb, Dz.w_call, Dz.w_tup, Dz.w_lst, Dz.w_cell, Dz.w_for, Dz.w_of, Dz.w_rg, Dz.w_new, Dz.w_newC, Dz.w_lc, Dz.w_join, Dz.w_isS, Dz.w_chain, Dz.w_eand, Dz.w_eor, Dz.w_enot, Dz.w_ltS, Dz.w_leS, Dz.w_is, Dz.w_isnot, Dz.w_inS, Dz.w_rpr, Dz.w_itS, Dz.w_itL, Dz.w_itLs, Dz.w_itT, Dz.w_add, Dz.w_sub, Dz.w_neg, Dz.w_lt, Dz.w_le, Dz.w_gt, Dz.w_ge, Dz.w_int, Dz.w_intb, Dz.w_abs, Dz.w_max, Dz.w_min, Dz.w_lenL, Dz.w_lenT, Dz.w_lenR, Dz.wp_pur, Dz.startE, Dz.w_dtup, Dz.w_dlst, Dz.asDs_nil, Dz.asDs_cons, Dz.w_some, Dz.w_kTup, Dz.w_kLst, Dz.w_addL, Dz.w_addT, Dz.w_sl, Dz.w_oNone, Dz.w_oSome, Dz.w_asI, Dz.w_slL, Dz.w_slT, Dz.w_zp, Dz.w_itZL, Dz.w_itZT, Dz.w_rg3, Dz.w_par, Dz.w_asg, Dz.w_asD, Dz.w_fld, Dz.w_sfd, Dz.w_mk, Dz.w_pro, Dz.w_isI, Dz.w_met, Dz.w_ncb, Dz.w_tupL, Dz.w_tupT, Dz.w_listL, Dz.w_listT, Dz.w_sorted, Dz.w_minI, Dz.w_itA, Dz.w_itAt, Dz.w_itAs, Dz.w_itAz, Dz.w_inT, Dz.w_inL, Dz.w_niT, Dz.w_inD, Dz.w_eqS, Dz.w_neS, Dz.w_eqI, Dz.w_neI, Dz.w_eqB, Dz.w_neB, Dz.w_eqL, Dz.w_neL, Dz.w_eqT, Dz.w_neT, Dz.dunNe_str, Dz.dunNe_bl, Dz.dunNe_int, Dz.dunNe_lst, Dz.dunNe_tup, Dz.dunNe_non, Dz.dunEq_str, Dz.dunEq_bl, Dz.dunEq_int, Dz.dunEq_lst, Dz.dunEq_tup, Dz.dunEq_non, Dz.dunIn_ins, Dz.tBoolX_ins, Dz.w_notB, Dz.w_isB, Dz.wp_bnd, Dz.w_mod, Dz.w_div, Dz.w_itR, Dz.w_itR2, Dz.w_fldD, Dz.w_cm, Dz.w_mkL, Dz.w_isC, Dz.w_fldL, Dz.w_stL, Dz.w_len, Dz.dInts_ints, Dz.ints_len, Dz.w_asgL, Dz.wipeE, Dz.setAll, List.map_cons, List.map_nil, List.length_cons, List.length_nil, List.replicate, List.cons_append, List.nil_append, List.append_nil, List.getElem?_cons_zero, List.getElem?_cons_succ, List.set_cons_zero, List.set_cons_succ, Nat.reduceAdd, Nat.reduceSub, Nat.zero_add, Nat.sub_zero, Bool.not_true, Bool.not_false, if_true, if_false, Bool.false_eq_true, reduceIte, decide_eq_true_eq, Option.map_some, Nat.reduceLeDiff, List.length_map, List.foldl_cons, List.foldl_nil])
    exact z, fun _ => pur_wp fun S Q z => by
    show wp (eOp _ _ _ [some (.d (insL p)), some (.d (insL q)), some (.d wd), some (.d (.int L)), some (.d (.int F)), some (.d (.lst _)), none, none, some (.d (.int n))]) S Q
    (try simp (maxSteps := 4000000) (disch := first | omega | decide | assumption | (simp only [List.length_cons, List.length_nil, Nat.reduceAdd, Nat.reduceLeDiff]; done) | (simp only [List.length_cons, List.length_nil, List.length_map, Dz.ints_len]; omega)) only [Dz.wp_noE, Dz.noE_pur, Dz.w_var, Dz.w_c, Dz.w_op, Dz.w_ix, Dz.w_un, Dz.w_test, Dz.w_asB, Dz.w_not, Dz.w_and, Dz.w_or, Dz.w_if, Dz.w_sif, Dz.w_seq, Dz.after_nx, Dz.after_rt, Dz.w_next, Dz.w_ret, Dz.w_set, Dz.w_drop, Dz.w_put, Dz.w_nil, Dz.w_cons, Dz.w_cb, Dz.w_call, Dz.w_tup, Dz.w_lst, Dz.w_cell, Dz.w_for, Dz.w_of, Dz.w_rg, Dz.w_new, Dz.w_newC, Dz.w_lc, Dz.w_join, Dz.w_isS, Dz.w_chain, Dz.w_eand, Dz.w_eor, Dz.w_enot, Dz.w_ltS, Dz.w_leS, Dz.w_is, Dz.w_isnot, Dz.w_inS, Dz.w_rpr, Dz.w_itS, Dz.w_itL, Dz.w_itLs, Dz.w_itT, Dz.w_add, Dz.w_sub, Dz.w_neg, Dz.w_lt, Dz.w_le, Dz.w_gt, Dz.w_ge, Dz.w_int, Dz.w_intb, Dz.w_abs, Dz.w_max, Dz.w_min, Dz.w_lenL, Dz.w_lenT, Dz.w_lenR, Dz.wp_pur, Dz.startE, Dz.w_dtup, Dz.w_dlst, Dz.asDs_nil, Dz.asDs_cons, Dz.w_some, Dz.w_kTup, Dz.w_kLst, Dz.w_addL, Dz.w_addT, Dz.w_sl, Dz.w_oNone, Dz.w_oSome, Dz.w_asI, Dz.w_slL, Dz.w_slT, Dz.w_zp, Dz.w_itZL, Dz.w_itZT, Dz.w_rg3, Dz.w_par, Dz.w_asg, Dz.w_asD, Dz.w_fld, Dz.w_sfd, Dz.w_mk, Dz.w_pro, Dz.w_isI, Dz.w_met, Dz.w_ncb, Dz.w_tupL, Dz.w_tupT, Dz.w_listL, Dz.w_listT, Dz.w_sorted, Dz.w_minI, Dz.w_itA, Dz.w_itAt, Dz.w_itAs, Dz.w_itAz, Dz.w_inT, Dz.w_inL, Dz.w_niT, Dz.w_inD, Dz.w_eqS, Dz.w_neS, Dz.w_eqI, Dz.w_neI, Dz.w_eqB, Dz.w_neB, Dz.w_eqL, Dz.w_neL, Dz.w_eqT, Dz.w_neT, Dz.dunNe_str, Dz.dunNe_bl, Dz.dunNe_int, Dz.dunNe_lst, Dz.dunNe_tup, Dz.dunNe_non, Dz.dunEq_str, Dz.dunEq_bl, Dz.dunEq_int, Dz.dunEq_lst, Dz.dunEq_tup, Dz.dunEq_non, Dz.dunIn_ins, Dz.tBoolX_ins, Dz.w_notB, Dz.w_isB, Dz.wp_bnd, Dz.w_mod, Dz.w_div, Dz.w_itR, Dz.w_itR2, Dz.w_fldD, Dz.w_cm, Dz.w_mkL, Dz.w_isC, Dz.w_fldL, Dz.w_stL, Dz.w_len, Dz.dInts_ints, Dz.ints_len, Dz.w_asgL, Dz.wipeE, Dz.setAll, List.map_cons, List.map_nil, List.length_cons, List.length_nil, List.replicate, List.cons_append, List.nil_append, List.append_nil, List.getElem?_cons_zero, List.getElem?_cons_succ, List.set_cons_zero, List.set_cons_succ, Nat.reduceAdd, Nat.reduceSub, Nat.zero_add, Nat.sub_zero, Bool.not_true, Bool.not_false, if_true, if_false, Bool.false_eq_true, reduceIte, decide_eq_true_eq, Option.map_some, Nat.reduceLeDiff, List.length_map, List.foldl_cons, List.foldl_nil])
    exact z⟩, wp_pur, cut_rst m0 l0]
  rw [show (((upto F L.toNat).filter fun n => w (has p n) (has q n)).map fun n => D.int (n % L)) = (((upto F L.toNat).filter fun n => w (has p n) (has q n)).map fun n => n % L).map D.int by rw [List.map_map]; rfl]
  rw [w_sorted]
  (try simp (maxSteps := 4000000) (disch := first | omega | decide | assumption | (simp only [List.length_cons, List.length_nil, Nat.reduceAdd, Nat.reduceLeDiff]; done) | (simp only [List.length_cons, List.length_nil, List.length_map, Dz.ints_len]; omega)) only [Dz.wp_noE, Dz.noE_pur, Dz.w_var, Dz.w_c, Dz.w_op, Dz.w_ix, Dz.w_un, Dz.w_test, Dz.w_asB, Dz.w_not, Dz.w_and, Dz.w_or, Dz.w_if, Dz.w_sif, Dz.w_seq, Dz.after_nx, Dz.after_rt, Dz.w_next, Dz.w_ret, Dz.w_set, Dz.w_drop, Dz.w_put, Dz.w_nil, Dz.w_cons, Dz.w_cb, Dz.w_call, Dz.w_tup, Dz.w_lst, Dz.w_cell, Dz.w_for, Dz.w_of, Dz.w_rg, Dz.w_new, Dz.w_newC, Dz.w_lc, Dz.w_join, Dz.w_isS, Dz.w_chain, Dz.w_eand, Dz.w_eor, Dz.w_enot, Dz.w_ltS, Dz.w_leS, Dz.w_is, Dz.w_isnot, Dz.w_inS, Dz.w_rpr, Dz.w_itS, Dz.w_itL, Dz.w_itLs, Dz.w_itT, Dz.w_add, Dz.w_sub, Dz.w_neg, Dz.w_lt, Dz.w_le, Dz.w_gt, Dz.w_ge, Dz.w_int, Dz.w_intb, Dz.w_abs, Dz.w_max, Dz.w_min, Dz.w_lenL, Dz.w_lenT, Dz.w_lenR, Dz.wp_pur, Dz.startE, Dz.w_dtup, Dz.w_dlst, Dz.asDs_nil, Dz.asDs_cons, Dz.w_some, Dz.w_kTup, Dz.w_kLst, Dz.w_addL, Dz.w_addT, Dz.w_sl, Dz.w_oNone, Dz.w_oSome, Dz.w_asI, Dz.w_slL, Dz.w_slT, Dz.w_zp, Dz.w_itZL, Dz.w_itZT, Dz.w_rg3, Dz.w_par, Dz.w_asg, Dz.w_asD, Dz.w_fld, Dz.w_sfd, Dz.w_mk, Dz.w_pro, Dz.w_isI, Dz.w_met, Dz.w_ncb, Dz.w_tupL, Dz.w_tupT, Dz.w_listL, Dz.w_listT, Dz.w_sorted, Dz.w_minI, Dz.w_itA, Dz.w_itAt, Dz.w_itAs, Dz.w_itAz, Dz.w_inT, Dz.w_inL, Dz.w_niT, Dz.w_inD, Dz.w_eqS, Dz.w_neS, Dz.w_eqI, Dz.w_neI, Dz.w_eqB, Dz.w_neB, Dz.w_eqL, Dz.w_neL, Dz.w_eqT, Dz.w_neT, Dz.dunNe_str, Dz.dunNe_bl, Dz.dunNe_int, Dz.dunNe_lst, Dz.dunNe_tup, Dz.dunNe_non, Dz.dunEq_str, Dz.dunEq_bl, Dz.dunEq_int, Dz.dunEq_lst, Dz.dunEq_tup, Dz.dunEq_non, Dz.dunIn_ins, Dz.tBoolX_ins, Dz.w_notB, Dz.w_isB, Dz.wp_bnd, Dz.w_mod, Dz.w_div, Dz.w_itR, Dz.w_itR2, Dz.w_fldD, Dz.w_cm, Dz.w_mkL, Dz.w_isC, Dz.w_fldL, Dz.w_stL, Dz.w_len, Dz.dInts_ints, Dz.ints_len, Dz.w_asgL, Dz.wipeE, Dz.setAll, List.map_cons, List.map_nil, List.length_cons, List.length_nil, List.replicate, List.cons_append, List.nil_append, List.append_nil, List.getElem?_cons_zero, List.getElem?_cons_succ, List.set_cons_zero, List.set_cons_succ, Nat.reduceAdd, Nat.reduceSub, Nat.zero_add, Nat.sub_zero, Bool.not_true, Bool.not_false, if_true, if_false, Bool.false_eq_true, reduceIte, decide_eq_true_eq, Option.map_some, Nat.reduceLeDiff, List.length_map, List.foldl_cons, List.foldl_nil])
  (try simp (maxSteps := 4000000) (disch := first | omega | decide | assumption | (simp only [List.length_cons, List.length_nil, Nat.reduceAdd, Nat.reduceLeDiff]; done) | (simp only [List.length_cons, List.length_nil, List.length_map, Dz.ints_len]; omega)) only [Dz.wp_noE, Dz.noE_pur, Dz.w_var, Dz.w_c, Dz.w_op, Dz.w_ix, Dz.w_un, Dz.w_test, Dz.w_asB, Dz.w_not, Dz.w_and, Dz.w_or, Dz.w_if, Dz.w_sif, Dz.w_seq, Dz.after_nx, Dz.after_rt, Dz.w_next, Dz.w_ret, Dz.w_set, Dz.w_drop, Dz.w_put, Dz.w_nil, Dz.w_cons, Dz.w_cb, Dz.w_call, Dz.w_tup, Dz.w_lst, Dz.w_cell, Dz.w_for, Dz.w_of, Dz.w_rg, Dz.w_new, Dz.w_newC, Dz.w_lc, Dz.w_join, Dz.w_isS, Dz.w_chain, Dz.w_eand, Dz.w_eor, Dz.w_enot, Dz.w_ltS, Dz.w_leS, Dz.w_is, Dz.w_isnot, Dz.w_inS, Dz.w_rpr, Dz.w_itS, Dz.w_itL, Dz.w_itLs, Dz.w_itT, Dz.w_add, Dz.w_sub, Dz.w_neg, Dz.w_lt, Dz.w_le, Dz.w_gt, Dz.w_ge, Dz.w_int, Dz.w_intb, Dz.w_abs, Dz.w_max, Dz.w_min, Dz.w_lenL, Dz.w_lenT, Dz.w_lenR, Dz.wp_pur, Dz.startE, Dz.w_dtup, Dz.w_dlst, Dz.asDs_nil, Dz.asDs_cons, Dz.w_some, Dz.w_kTup, Dz.w_kLst, Dz.w_addL, Dz.w_addT, Dz.w_sl, Dz.w_oNone, Dz.w_oSome, Dz.w_asI, Dz.w_slL, Dz.w_slT, Dz.w_zp, Dz.w_itZL, Dz.w_itZT, Dz.w_rg3, Dz.w_par, Dz.w_asg, Dz.w_asD, Dz.w_fld, Dz.w_sfd, Dz.w_mk, Dz.w_pro, Dz.w_isI, Dz.w_met, Dz.w_ncb, Dz.w_tupL, Dz.w_tupT, Dz.w_listL, Dz.w_listT, Dz.w_sorted, Dz.w_minI, Dz.w_itA, Dz.w_itAt, Dz.w_itAs, Dz.w_itAz, Dz.w_inT, Dz.w_inL, Dz.w_niT, Dz.w_inD, Dz.w_eqS, Dz.w_neS, Dz.w_eqI, Dz.w_neI, Dz.w_eqB, Dz.w_neB, Dz.w_eqL, Dz.w_neL, Dz.w_eqT, Dz.w_neT, Dz.dunNe_str, Dz.dunNe_bl, Dz.dunNe_int, Dz.dunNe_lst, Dz.dunNe_tup, Dz.dunNe_non, Dz.dunEq_str, Dz.dunEq_bl, Dz.dunEq_int, Dz.dunEq_lst, Dz.dunEq_tup, Dz.dunEq_non, Dz.dunIn_ins, Dz.tBoolX_ins, Dz.w_notB, Dz.w_isB, Dz.wp_bnd, Dz.w_mod, Dz.w_div, Dz.w_itR, Dz.w_itR2, Dz.w_fldD, Dz.w_cm, Dz.w_mkL, Dz.w_isC, Dz.w_fldL, Dz.w_stL, Dz.w_len, Dz.dInts_ints, Dz.ints_len, Dz.w_asgL, Dz.wipeE, Dz.setAll, List.map_cons, List.map_nil, List.length_cons, List.length_nil, List.replicate, List.cons_append, List.nil_append, List.append_nil, List.getElem?_cons_zero, List.getElem?_cons_succ, List.set_cons_zero, List.set_cons_succ, Nat.reduceAdd, Nat.reduceSub, Nat.zero_add, Nat.sub_zero, Bool.not_true, Bool.not_false, if_true, if_false, Bool.false_eq_true, reduceIte, decide_eq_true_eq, Option.map_some, Nat.reduceLeDiff, List.length_map, List.foldl_cons, List.foldl_nil])
  rw [lcL_ints (b := fun n => decide (n < F)) (v := D.int) _ fun n hn => ⟨pur_wp fun S Q z => by
    show wp (eTest _ [some (.d (insL p)), some (.d (insL q)), some (.d wd), some (.d (.int L)), some (.d (.int F)), some (.d (.lst _)), some (.d (.lst _)), none, some (.d (.int n))]) S Q
    (try simp (maxSteps := 4000000) (disch := first | omega | decide | assumption | (simp only [List.length_cons, List.length_nil, Nat.reduceAdd, Nat.reduceLeDiff]; done) | (simp only [List.length_cons, List.length_nil, List.length_map, Dz.ints_len]; omega)) only [Dz.wp_noE, Dz.noE_pur, Dz.w_var, Dz.w_c, Dz.w_op, Dz.w_ix, Dz.w_un, Dz.w_test, Dz.w_asB, Dz.w_not, Dz.w_and, Dz.w_or, Dz.w_if, Dz.w_sif, Dz.w_seq, Dz.after_nx, Dz.after_rt, Dz.w_next, Dz.w_ret, Dz.w_set, Dz.w_drop, Dz.w_put, Dz.w_nil, Dz.w_cons, Dz.w_cb, Dz.w_call, Dz.w_tup, Dz.w_lst, Dz.w_cell, Dz.w_for, Dz.w_of, Dz.w_rg, Dz.w_new, Dz.w_newC, Dz.w_lc, Dz.w_join, Dz.w_isS, Dz.w_chain, Dz.w_eand, Dz.w_eor, Dz.w_enot, Dz.w_ltS, Dz.w_leS, Dz.w_is, Dz.w_isnot, Dz.w_inS, Dz.w_rpr, Dz.w_itS, Dz.w_itL, Dz.w_itLs, Dz.w_itT, Dz.w_add, Dz.w_sub, Dz.w_neg, Dz.w_lt, Dz.w_le, Dz.w_gt, Dz.w_ge, Dz.w_int, Dz.w_intb, Dz.w_abs, Dz.w_max, Dz.w_min, Dz.w_lenL, Dz.w_lenT, Dz.w_lenR, Dz.wp_pur, Dz.startE, Dz.w_dtup, Dz.w_dlst, Dz.asDs_nil, Dz.asDs_cons, Dz.w_some, Dz.w_kTup, Dz.w_kLst, Dz.w_addL, Dz.w_addT, Dz.w_sl, Dz.w_oNone, Dz.w_oSome, Dz.w_asI, Dz.w_slL, Dz.w_slT, Dz.w_zp, Dz.w_itZL, Dz.w_itZT, Dz.w_rg3, Dz.w_par, Dz.w_asg, Dz.w_asD, Dz.w_fld, Dz.w_sfd, Dz.w_mk, Dz.w_pro, Dz.w_isI, Dz.w_met, Dz.w_ncb, Dz.w_tupL, Dz.w_tupT, Dz.w_listL, Dz.w_listT, Dz.w_sorted, Dz.w_minI, Dz.w_itA, Dz.w_itAt, Dz.w_itAs, Dz.w_itAz, Dz.w_inT, Dz.w_inL, Dz.w_niT, Dz.w_inD, Dz.w_eqS, Dz.w_neS, Dz.w_eqI, Dz.w_neI, Dz.w_eqB, Dz.w_neB, Dz.w_eqL, Dz.w_neL, Dz.w_eqT, Dz.w_neT, Dz.dunNe_str, Dz.dunNe_bl, Dz.dunNe_int, Dz.dunNe_lst, Dz.dunNe_tup, Dz.dunNe_non, Dz.dunEq_str, Dz.dunEq_bl, Dz.dunEq_int, Dz.dunEq_lst, Dz.dunEq_tup, Dz.dunEq_non, Dz.dunIn_ins, Dz.tBoolX_ins, Dz.w_notB, Dz.w_isB, Dz.wp_bnd, Dz.w_mod, Dz.w_div, Dz.w_itR, Dz.w_itR2, Dz.w_fldD, Dz.w_cm, Dz.w_mkL, Dz.w_isC, Dz.w_fldL, Dz.w_stL, Dz.w_len, Dz.dInts_ints, Dz.ints_len, Dz.w_asgL, Dz.wipeE, Dz.setAll, List.map_cons, List.map_nil, List.length_cons, List.length_nil, List.replicate, List.cons_append, List.nil_append, List.append_nil, List.getElem?_cons_zero, List.getElem?_cons_succ, List.set_cons_zero, List.set_cons_succ, Nat.reduceAdd, Nat.reduceSub, Nat.zero_add, Nat.sub_zero, Bool.not_true, Bool.not_false, if_true, if_false, Bool.false_eq_true, reduceIte, decide_eq_true_eq, Option.map_some, Nat.reduceLeDiff, List.length_map, List.foldl_cons, List.foldl_nil])
    exact z, fun _ => rfl⟩, wp_pur, cut_few m0 l0]
  (try simp (maxSteps := 4000000) (disch := first | omega | decide | assumption | (simp only [List.length_cons, List.length_nil, Nat.reduceAdd, Nat.reduceLeDiff]; done) | (simp only [List.length_cons, List.length_nil, List.length_map, Dz.ints_len]; omega)) only [Dz.wp_noE, Dz.noE_pur, Dz.w_var, Dz.w_c, Dz.w_op, Dz.w_ix, Dz.w_un, Dz.w_test, Dz.w_asB, Dz.w_not, Dz.w_and, Dz.w_or, Dz.w_if, Dz.w_sif, Dz.w_seq, Dz.after_nx, Dz.after_rt, Dz.w_next, Dz.w_ret, Dz.w_set, Dz.w_drop, Dz.w_put, Dz.w_nil, Dz.w_cons, Dz.w_cb, Dz.w_call, Dz.w_tup, Dz.w_lst, Dz.w_cell, Dz.w_for, Dz.w_of, Dz.w_rg, Dz.w_new, Dz.w_newC, Dz.w_lc, Dz.w_join, Dz.w_isS, Dz.w_chain, Dz.w_eand, Dz.w_eor, Dz.w_enot, Dz.w_ltS, Dz.w_leS, Dz.w_is, Dz.w_isnot, Dz.w_inS, Dz.w_rpr, Dz.w_itS, Dz.w_itL, Dz.w_itLs, Dz.w_itT, Dz.w_add, Dz.w_sub, Dz.w_neg, Dz.w_lt, Dz.w_le, Dz.w_gt, Dz.w_ge, Dz.w_int, Dz.w_intb, Dz.w_abs, Dz.w_max, Dz.w_min, Dz.w_lenL, Dz.w_lenT, Dz.w_lenR, Dz.wp_pur, Dz.startE, Dz.w_dtup, Dz.w_dlst, Dz.asDs_nil, Dz.asDs_cons, Dz.w_some, Dz.w_kTup, Dz.w_kLst, Dz.w_addL, Dz.w_addT, Dz.w_sl, Dz.w_oNone, Dz.w_oSome, Dz.w_asI, Dz.w_slL, Dz.w_slT, Dz.w_zp, Dz.w_itZL, Dz.w_itZT, Dz.w_rg3, Dz.w_par, Dz.w_asg, Dz.w_asD, Dz.w_fld, Dz.w_sfd, Dz.w_mk, Dz.w_pro, Dz.w_isI, Dz.w_met, Dz.w_ncb, Dz.w_tupL, Dz.w_tupT, Dz.w_listL, Dz.w_listT, Dz.w_sorted, Dz.w_minI, Dz.w_itA, Dz.w_itAt, Dz.w_itAs, Dz.w_itAz, Dz.w_inT, Dz.w_inL, Dz.w_niT, Dz.w_inD, Dz.w_eqS, Dz.w_neS, Dz.w_eqI, Dz.w_neI, Dz.w_eqB, Dz.w_neB, Dz.w_eqL, Dz.w_neL, Dz.w_eqT, Dz.w_neT, Dz.dunNe_str, Dz.dunNe_bl, Dz.dunNe_int, Dz.dunNe_lst, Dz.dunNe_tup, Dz.dunNe_non, Dz.dunEq_str, Dz.dunEq_bl, Dz.dunEq_int, Dz.dunEq_lst, Dz.dunEq_tup, Dz.dunEq_non, Dz.dunIn_ins, Dz.tBoolX_ins, Dz.w_notB, Dz.w_isB, Dz.wp_bnd, Dz.w_mod, Dz.w_div, Dz.w_itR, Dz.w_itR2, Dz.w_fldD, Dz.w_cm, Dz.w_mkL, Dz.w_isC, Dz.w_fldL, Dz.w_stL, Dz.w_len, Dz.dInts_ints, Dz.ints_len, Dz.w_asgL, Dz.wipeE, Dz.setAll, List.map_cons, List.map_nil, List.length_cons, List.length_nil, List.replicate, List.cons_append, List.nil_append, List.append_nil, List.getElem?_cons_zero, List.getElem?_cons_succ, List.set_cons_zero, List.set_cons_succ, Nat.reduceAdd, Nat.reduceSub, Nat.zero_add, Nat.sub_zero, Bool.not_true, Bool.not_false, if_true, if_false, Bool.false_eq_true, reduceIte, decide_eq_true_eq, Option.map_some, Nat.reduceLeDiff, List.length_map, List.foldl_cons, List.foldl_nil])
  have e := make_eq (p := mk (fun n => w (has p n) (has q n)) F L) (mk_ok m0 m1 l0 hl)
  refine wp_of e ?_
  unfold jn at z
  rw [hF, hL] at z
  exact z
theorem and_eq {p q : Pt} (kp : Ok p) (kq : Ok q) (hl : lc p.per q.per ≤ 2000) : f_Limits___and__ [.d (insL p), .d (insL q)] = pur (.d (insL (canon (jn (fun a b => a && b) p q)))) := fn_by fun S Q z => by
  unfold b_Limits___and__
  (try simp (maxSteps := 4000000) (disch := first | omega | decide | assumption | (simp only [List.length_cons, List.length_nil, Nat.reduceAdd, Nat.reduceLeDiff]; done) | (simp only [List.length_cons, List.length_nil, List.length_map, Dz.ints_len]; omega)) only [Dz.wp_noE, Dz.noE_pur, Dz.w_var, Dz.w_c, Dz.w_op, Dz.w_ix, Dz.w_un, Dz.w_test, Dz.w_asB, Dz.w_not, Dz.w_and, Dz.w_or, Dz.w_if, Dz.w_sif, Dz.w_seq, Dz.after_nx, Dz.after_rt, Dz.w_next, Dz.w_ret, Dz.w_set, Dz.w_drop, Dz.w_put, Dz.w_nil, Dz.w_cons, Dz.w_cb, Dz.w_call, Dz.w_tup, Dz.w_lst, Dz.w_cell, Dz.w_for, Dz.w_of, Dz.w_rg, Dz.w_new, Dz.w_newC, Dz.w_lc, Dz.w_join, Dz.w_isS, Dz.w_chain, Dz.w_eand, Dz.w_eor, Dz.w_enot, Dz.w_ltS, Dz.w_leS, Dz.w_is, Dz.w_isnot, Dz.w_inS, Dz.w_rpr, Dz.w_itS, Dz.w_itL, Dz.w_itLs, Dz.w_itT, Dz.w_add, Dz.w_sub, Dz.w_neg, Dz.w_lt, Dz.w_le, Dz.w_gt, Dz.w_ge, Dz.w_int, Dz.w_intb, Dz.w_abs, Dz.w_max, Dz.w_min, Dz.w_lenL, Dz.w_lenT, Dz.w_lenR, Dz.wp_pur, Dz.startE, Dz.w_dtup, Dz.w_dlst, Dz.asDs_nil, Dz.asDs_cons, Dz.w_some, Dz.w_kTup, Dz.w_kLst, Dz.w_addL, Dz.w_addT, Dz.w_sl, Dz.w_oNone, Dz.w_oSome, Dz.w_asI, Dz.w_slL, Dz.w_slT, Dz.w_zp, Dz.w_itZL, Dz.w_itZT, Dz.w_rg3, Dz.w_par, Dz.w_asg, Dz.w_asD, Dz.w_fld, Dz.w_sfd, Dz.w_mk, Dz.w_pro, Dz.w_isI, Dz.w_met, Dz.w_ncb, Dz.w_tupL, Dz.w_tupT, Dz.w_listL, Dz.w_listT, Dz.w_sorted, Dz.w_minI, Dz.w_itA, Dz.w_itAt, Dz.w_itAs, Dz.w_itAz, Dz.w_inT, Dz.w_inL, Dz.w_niT, Dz.w_inD, Dz.w_eqS, Dz.w_neS, Dz.w_eqI, Dz.w_neI, Dz.w_eqB, Dz.w_neB, Dz.w_eqL, Dz.w_neL, Dz.w_eqT, Dz.w_neT, Dz.dunNe_str, Dz.dunNe_bl, Dz.dunNe_int, Dz.dunNe_lst, Dz.dunNe_tup, Dz.dunNe_non, Dz.dunEq_str, Dz.dunEq_bl, Dz.dunEq_int, Dz.dunEq_lst, Dz.dunEq_tup, Dz.dunEq_non, Dz.dunIn_ins, Dz.tBoolX_ins, Dz.w_notB, Dz.w_isB, Dz.wp_bnd, Dz.w_mod, Dz.w_div, Dz.w_itR, Dz.w_itR2, Dz.w_fldD, Dz.w_cm, Dz.w_mkL, Dz.w_isC, Dz.w_fldL, Dz.w_stL, Dz.w_len, Dz.dInts_ints, Dz.ints_len, Dz.w_asgL, Dz.wipeE, Dz.setAll, List.map_cons, List.map_nil, List.length_cons, List.length_nil, List.replicate, List.cons_append, List.nil_append, List.append_nil, List.getElem?_cons_zero, List.getElem?_cons_succ, List.set_cons_zero, List.set_cons_succ, Nat.reduceAdd, Nat.reduceSub, Nat.zero_add, Nat.sub_zero, Bool.not_true, Bool.not_false, if_true, if_false, Bool.false_eq_true, reduceIte, decide_eq_true_eq, Option.map_some, Nat.reduceLeDiff, List.length_map, List.foldl_cons, List.foldl_nil, joined_eq kp kq hl wnt_and])
  exact z
theorem or_eq {p q : Pt} (kp : Ok p) (kq : Ok q) (hl : lc p.per q.per ≤ 2000) : f_Limits___or__ [.d (insL p), .d (insL q)] = pur (.d (insL (canon (jn (fun a b => a || b) p q)))) := fn_by fun S Q z => by
  unfold b_Limits___or__
  (try simp (maxSteps := 4000000) (disch := first | omega | decide | assumption | (simp only [List.length_cons, List.length_nil, Nat.reduceAdd, Nat.reduceLeDiff]; done) | (simp only [List.length_cons, List.length_nil, List.length_map, Dz.ints_len]; omega)) only [Dz.wp_noE, Dz.noE_pur, Dz.w_var, Dz.w_c, Dz.w_op, Dz.w_ix, Dz.w_un, Dz.w_test, Dz.w_asB, Dz.w_not, Dz.w_and, Dz.w_or, Dz.w_if, Dz.w_sif, Dz.w_seq, Dz.after_nx, Dz.after_rt, Dz.w_next, Dz.w_ret, Dz.w_set, Dz.w_drop, Dz.w_put, Dz.w_nil, Dz.w_cons, Dz.w_cb, Dz.w_call, Dz.w_tup, Dz.w_lst, Dz.w_cell, Dz.w_for, Dz.w_of, Dz.w_rg, Dz.w_new, Dz.w_newC, Dz.w_lc, Dz.w_join, Dz.w_isS, Dz.w_chain, Dz.w_eand, Dz.w_eor, Dz.w_enot, Dz.w_ltS, Dz.w_leS, Dz.w_is, Dz.w_isnot, Dz.w_inS, Dz.w_rpr, Dz.w_itS, Dz.w_itL, Dz.w_itLs, Dz.w_itT, Dz.w_add, Dz.w_sub, Dz.w_neg, Dz.w_lt, Dz.w_le, Dz.w_gt, Dz.w_ge, Dz.w_int, Dz.w_intb, Dz.w_abs, Dz.w_max, Dz.w_min, Dz.w_lenL, Dz.w_lenT, Dz.w_lenR, Dz.wp_pur, Dz.startE, Dz.w_dtup, Dz.w_dlst, Dz.asDs_nil, Dz.asDs_cons, Dz.w_some, Dz.w_kTup, Dz.w_kLst, Dz.w_addL, Dz.w_addT, Dz.w_sl, Dz.w_oNone, Dz.w_oSome, Dz.w_asI, Dz.w_slL, Dz.w_slT, Dz.w_zp, Dz.w_itZL, Dz.w_itZT, Dz.w_rg3, Dz.w_par, Dz.w_asg, Dz.w_asD, Dz.w_fld, Dz.w_sfd, Dz.w_mk, Dz.w_pro, Dz.w_isI, Dz.w_met, Dz.w_ncb, Dz.w_tupL, Dz.w_tupT, Dz.w_listL, Dz.w_listT, Dz.w_sorted, Dz.w_minI, Dz.w_itA, Dz.w_itAt, Dz.w_itAs, Dz.w_itAz, Dz.w_inT, Dz.w_inL, Dz.w_niT, Dz.w_inD, Dz.w_eqS, Dz.w_neS, Dz.w_eqI, Dz.w_neI, Dz.w_eqB, Dz.w_neB, Dz.w_eqL, Dz.w_neL, Dz.w_eqT, Dz.w_neT, Dz.dunNe_str, Dz.dunNe_bl, Dz.dunNe_int, Dz.dunNe_lst, Dz.dunNe_tup, Dz.dunNe_non, Dz.dunEq_str, Dz.dunEq_bl, Dz.dunEq_int, Dz.dunEq_lst, Dz.dunEq_tup, Dz.dunEq_non, Dz.dunIn_ins, Dz.tBoolX_ins, Dz.w_notB, Dz.w_isB, Dz.wp_bnd, Dz.w_mod, Dz.w_div, Dz.w_itR, Dz.w_itR2, Dz.w_fldD, Dz.w_cm, Dz.w_mkL, Dz.w_isC, Dz.w_fldL, Dz.w_stL, Dz.w_len, Dz.dInts_ints, Dz.ints_len, Dz.w_asgL, Dz.wipeE, Dz.setAll, List.map_cons, List.map_nil, List.length_cons, List.length_nil, List.replicate, List.cons_append, List.nil_append, List.append_nil, List.getElem?_cons_zero, List.getElem?_cons_succ, List.set_cons_zero, List.set_cons_succ, Nat.reduceAdd, Nat.reduceSub, Nat.zero_add, Nat.sub_zero, Bool.not_true, Bool.not_false, if_true, if_false, Bool.false_eq_true, reduceIte, decide_eq_true_eq, Option.map_some, Nat.reduceLeDiff, List.length_map, List.foldl_cons, List.foldl_nil, joined_eq kp kq hl wnt_or])
  exact z
theorem sub_eq {p q : Pt} (kp : Ok p) (kq : Ok q) (hl : lc p.per q.per ≤ 2000) : f_Limits___sub__ [.d (insL p), .d (insL q)] = pur (.d (insL (canon (jn (fun a b => a && !b) p q)))) := fn_by fun S Q z => by
  unfold b_Limits___sub__
  (try simp (maxSteps := 4000000) (disch := first | omega | decide | assumption | (simp only [List.length_cons, List.length_nil, Nat.reduceAdd, Nat.reduceLeDiff]; done) | (simp only [List.length_cons, List.length_nil, List.length_map, Dz.ints_len]; omega)) only [Dz.wp_noE, Dz.noE_pur, Dz.w_var, Dz.w_c, Dz.w_op, Dz.w_ix, Dz.w_un, Dz.w_test, Dz.w_asB, Dz.w_not, Dz.w_and, Dz.w_or, Dz.w_if, Dz.w_sif, Dz.w_seq, Dz.after_nx, Dz.after_rt, Dz.w_next, Dz.w_ret, Dz.w_set, Dz.w_drop, Dz.w_put, Dz.w_nil, Dz.w_cons, Dz.w_cb, Dz.w_call, Dz.w_tup, Dz.w_lst, Dz.w_cell, Dz.w_for, Dz.w_of, Dz.w_rg, Dz.w_new, Dz.w_newC, Dz.w_lc, Dz.w_join, Dz.w_isS, Dz.w_chain, Dz.w_eand, Dz.w_eor, Dz.w_enot, Dz.w_ltS, Dz.w_leS, Dz.w_is, Dz.w_isnot, Dz.w_inS, Dz.w_rpr, Dz.w_itS, Dz.w_itL, Dz.w_itLs, Dz.w_itT, Dz.w_add, Dz.w_sub, Dz.w_neg, Dz.w_lt, Dz.w_le, Dz.w_gt, Dz.w_ge, Dz.w_int, Dz.w_intb, Dz.w_abs, Dz.w_max, Dz.w_min, Dz.w_lenL, Dz.w_lenT, Dz.w_lenR, Dz.wp_pur, Dz.startE, Dz.w_dtup, Dz.w_dlst, Dz.asDs_nil, Dz.asDs_cons, Dz.w_some, Dz.w_kTup, Dz.w_kLst, Dz.w_addL, Dz.w_addT, Dz.w_sl, Dz.w_oNone, Dz.w_oSome, Dz.w_asI, Dz.w_slL, Dz.w_slT, Dz.w_zp, Dz.w_itZL, Dz.w_itZT, Dz.w_rg3, Dz.w_par, Dz.w_asg, Dz.w_asD, Dz.w_fld, Dz.w_sfd, Dz.w_mk, Dz.w_pro, Dz.w_isI, Dz.w_met, Dz.w_ncb, Dz.w_tupL, Dz.w_tupT, Dz.w_listL, Dz.w_listT, Dz.w_sorted, Dz.w_minI, Dz.w_itA, Dz.w_itAt, Dz.w_itAs, Dz.w_itAz, Dz.w_inT, Dz.w_inL, Dz.w_niT, Dz.w_inD, Dz.w_eqS, Dz.w_neS, Dz.w_eqI, Dz.w_neI, Dz.w_eqB, Dz.w_neB, Dz.w_eqL, Dz.w_neL, Dz.w_eqT, Dz.w_neT, Dz.dunNe_str, Dz.dunNe_bl, Dz.dunNe_int, Dz.dunNe_lst, Dz.dunNe_tup, Dz.dunNe_non, Dz.dunEq_str, Dz.dunEq_bl, Dz.dunEq_int, Dz.dunEq_lst, Dz.dunEq_tup, Dz.dunEq_non, Dz.dunIn_ins, Dz.tBoolX_ins, Dz.w_notB, Dz.w_isB, Dz.wp_bnd, Dz.w_mod, Dz.w_div, Dz.w_itR, Dz.w_itR2, Dz.w_fldD, Dz.w_cm, Dz.w_mkL, Dz.w_isC, Dz.w_fldL, Dz.w_stL, Dz.w_len, Dz.dInts_ints, Dz.ints_len, Dz.w_asgL, Dz.wipeE, Dz.setAll, List.map_cons, List.map_nil, List.length_cons, List.length_nil, List.replicate, List.cons_append, List.nil_append, List.append_nil, List.getElem?_cons_zero, List.getElem?_cons_succ, List.set_cons_zero, List.set_cons_succ, Nat.reduceAdd, Nat.reduceSub, Nat.zero_add, Nat.sub_zero, Bool.not_true, Bool.not_false, if_true, if_false, Bool.false_eq_true, reduceIte, decide_eq_true_eq, Option.map_some, Nat.reduceLeDiff, List.length_map, List.foldl_cons, List.foldl_nil, joined_eq kp kq hl wnt_sub])
  exact z
theorem xor_eq {p q : Pt} (kp : Ok p) (kq : Ok q) (hl : lc p.per q.per ≤ 2000) : f_Limits___xor__ [.d (insL p), .d (insL q)] = pur (.d (insL (canon (jn (fun a b => a != b) p q)))) := fn_by fun S Q z => by
  unfold b_Limits___xor__
  (try simp (maxSteps := 4000000) (disch := first | omega | decide | assumption | (simp only [List.length_cons, List.length_nil, Nat.reduceAdd, Nat.reduceLeDiff]; done) | (simp only [List.length_cons, List.length_nil, List.length_map, Dz.ints_len]; omega)) only [Dz.wp_noE, Dz.noE_pur, Dz.w_var, Dz.w_c, Dz.w_op, Dz.w_ix, Dz.w_un, Dz.w_test, Dz.w_asB, Dz.w_not, Dz.w_and, Dz.w_or, Dz.w_if, Dz.w_sif, Dz.w_seq, Dz.after_nx, Dz.after_rt, Dz.w_next, Dz.w_ret, Dz.w_set, Dz.w_drop, Dz.w_put, Dz.w_nil, Dz.w_cons, Dz.w_cb, Dz.w_call, Dz.w_tup, Dz.w_lst, Dz.w_cell, Dz.w_for, Dz.w_of, Dz.w_rg, Dz.w_new, Dz.w_newC, Dz.w_lc, Dz.w_join, Dz.w_isS, Dz.w_chain, Dz.w_eand, Dz.w_eor, Dz.w_enot, Dz.w_ltS, Dz.w_leS, Dz.w_is, Dz.w_isnot, Dz.w_inS, Dz.w_rpr, Dz.w_itS, Dz.w_itL, Dz.w_itLs, Dz.w_itT, Dz.w_add, Dz.w_sub, Dz.w_neg, Dz.w_lt, Dz.w_le, Dz.w_gt, Dz.w_ge, Dz.w_int, Dz.w_intb, Dz.w_abs, Dz.w_max, Dz.w_min, Dz.w_lenL, Dz.w_lenT, Dz.w_lenR, Dz.wp_pur, Dz.startE, Dz.w_dtup, Dz.w_dlst, Dz.asDs_nil, Dz.asDs_cons, Dz.w_some, Dz.w_kTup, Dz.w_kLst, Dz.w_addL, Dz.w_addT, Dz.w_sl, Dz.w_oNone, Dz.w_oSome, Dz.w_asI, Dz.w_slL, Dz.w_slT, Dz.w_zp, Dz.w_itZL, Dz.w_itZT, Dz.w_rg3, Dz.w_par, Dz.w_asg, Dz.w_asD, Dz.w_fld, Dz.w_sfd, Dz.w_mk, Dz.w_pro, Dz.w_isI, Dz.w_met, Dz.w_ncb, Dz.w_tupL, Dz.w_tupT, Dz.w_listL, Dz.w_listT, Dz.w_sorted, Dz.w_minI, Dz.w_itA, Dz.w_itAt, Dz.w_itAs, Dz.w_itAz, Dz.w_inT, Dz.w_inL, Dz.w_niT, Dz.w_inD, Dz.w_eqS, Dz.w_neS, Dz.w_eqI, Dz.w_neI, Dz.w_eqB, Dz.w_neB, Dz.w_eqL, Dz.w_neL, Dz.w_eqT, Dz.w_neT, Dz.dunNe_str, Dz.dunNe_bl, Dz.dunNe_int, Dz.dunNe_lst, Dz.dunNe_tup, Dz.dunNe_non, Dz.dunEq_str, Dz.dunEq_bl, Dz.dunEq_int, Dz.dunEq_lst, Dz.dunEq_tup, Dz.dunEq_non, Dz.dunIn_ins, Dz.tBoolX_ins, Dz.w_notB, Dz.w_isB, Dz.wp_bnd, Dz.w_mod, Dz.w_div, Dz.w_itR, Dz.w_itR2, Dz.w_fldD, Dz.w_cm, Dz.w_mkL, Dz.w_isC, Dz.w_fldL, Dz.w_stL, Dz.w_len, Dz.dInts_ints, Dz.ints_len, Dz.w_asgL, Dz.wipeE, Dz.setAll, List.map_cons, List.map_nil, List.length_cons, List.length_nil, List.replicate, List.cons_append, List.nil_append, List.append_nil, List.getElem?_cons_zero, List.getElem?_cons_succ, List.set_cons_zero, List.set_cons_succ, Nat.reduceAdd, Nat.reduceSub, Nat.zero_add, Nat.sub_zero, Bool.not_true, Bool.not_false, if_true, if_false, Bool.false_eq_true, reduceIte, decide_eq_true_eq, Option.map_some, Nat.reduceLeDiff, List.length_map, List.foldl_cons, List.foldl_nil, joined_eq kp kq hl wnt_xor])
  exact z
theorem w_niT' {ns : List Int} {i : Int} {S : Sto} {Q : Vl → Sto → Prop} : wp (cNotIn2 (.d (.int i)) (.d (.tup (ns.map D.int)))) S Q ↔ Q (.d (.bl (!decide (i ∈ ns)))) S := w_niT
theorem invert_eq {p : Pt} (k : Ok p) : f_Limits___invert__ [.d (insL p)] = pur (.d (insL (canon (inv p)))) := fn_by fun S Q z => by
  have p0 := k.p0; have p1 := k.p1; have f0 := k.f0; have f1 := k.f1
  unfold b_Limits___invert__
  (try simp (maxSteps := 4000000) (disch := first | omega | decide | assumption | (simp only [List.length_cons, List.length_nil, Nat.reduceAdd, Nat.reduceLeDiff]; done) | (simp only [List.length_cons, List.length_nil, List.length_map, Dz.ints_len]; omega)) only [Dz.wp_noE, Dz.noE_pur, Dz.w_var, Dz.w_c, Dz.w_op, Dz.w_ix, Dz.w_un, Dz.w_test, Dz.w_asB, Dz.w_not, Dz.w_and, Dz.w_or, Dz.w_if, Dz.w_sif, Dz.w_seq, Dz.after_nx, Dz.after_rt, Dz.w_next, Dz.w_ret, Dz.w_set, Dz.w_drop, Dz.w_put, Dz.w_nil, Dz.w_cons, Dz.w_cb, Dz.w_call, Dz.w_tup, Dz.w_lst, Dz.w_cell, Dz.w_for, Dz.w_of, Dz.w_rg, Dz.w_new, Dz.w_newC, Dz.w_lc, Dz.w_join, Dz.w_isS, Dz.w_chain, Dz.w_eand, Dz.w_eor, Dz.w_enot, Dz.w_ltS, Dz.w_leS, Dz.w_is, Dz.w_isnot, Dz.w_inS, Dz.w_rpr, Dz.w_itS, Dz.w_itL, Dz.w_itLs, Dz.w_itT, Dz.w_add, Dz.w_sub, Dz.w_neg, Dz.w_lt, Dz.w_le, Dz.w_gt, Dz.w_ge, Dz.w_int, Dz.w_intb, Dz.w_abs, Dz.w_max, Dz.w_min, Dz.w_lenL, Dz.w_lenT, Dz.w_lenR, Dz.wp_pur, Dz.startE, Dz.w_dtup, Dz.w_dlst, Dz.asDs_nil, Dz.asDs_cons, Dz.w_some, Dz.w_kTup, Dz.w_kLst, Dz.w_addL, Dz.w_addT, Dz.w_sl, Dz.w_oNone, Dz.w_oSome, Dz.w_asI, Dz.w_slL, Dz.w_slT, Dz.w_zp, Dz.w_itZL, Dz.w_itZT, Dz.w_rg3, Dz.w_par, Dz.w_asg, Dz.w_asD, Dz.w_fld, Dz.w_sfd, Dz.w_mk, Dz.w_pro, Dz.w_isI, Dz.w_met, Dz.w_ncb, Dz.w_tupL, Dz.w_tupT, Dz.w_listL, Dz.w_listT, Dz.w_sorted, Dz.w_minI, Dz.w_itA, Dz.w_itAt, Dz.w_itAs, Dz.w_itAz, Dz.w_inT, Dz.w_inL, Dz.w_niT, Dz.w_inD, Dz.w_eqS, Dz.w_neS, Dz.w_eqI, Dz.w_neI, Dz.w_eqB, Dz.w_neB, Dz.w_eqL, Dz.w_neL, Dz.w_eqT, Dz.w_neT, Dz.dunNe_str, Dz.dunNe_bl, Dz.dunNe_int, Dz.dunNe_lst, Dz.dunNe_tup, Dz.dunNe_non, Dz.dunEq_str, Dz.dunEq_bl, Dz.dunEq_int, Dz.dunEq_lst, Dz.dunEq_tup, Dz.dunEq_non, Dz.dunIn_ins, Dz.tBoolX_ins, Dz.w_notB, Dz.w_isB, Dz.wp_bnd, Dz.w_mod, Dz.w_div, Dz.w_itR, Dz.w_itR2, Dz.w_fldD, Dz.w_cm, Dz.w_mkL, Dz.w_isC, Dz.w_fldL, Dz.w_stL, Dz.w_len, Dz.dInts_ints, Dz.ints_len, Dz.w_asgL, Dz.wipeE, Dz.setAll, List.map_cons, List.map_nil, List.length_cons, List.length_nil, List.replicate, List.cons_append, List.nil_append, List.append_nil, List.getElem?_cons_zero, List.getElem?_cons_succ, List.set_cons_zero, List.set_cons_succ, Nat.reduceAdd, Nat.reduceSub, Nat.zero_add, Nat.sub_zero, Bool.not_true, Bool.not_false, if_true, if_false, Bool.false_eq_true, reduceIte, decide_eq_true_eq, Option.map_some, Nat.reduceLeDiff, List.length_map, List.foldl_cons, List.foldl_nil, fld_fst])
  rw [lcL_ints (b := fun n => !decide (n ∈ p.few)) (v := D.int) _ fun n hn => ⟨pur_wp fun S Q z => by
    show wp (eTest _ [some (.d (insL p)), none, none, some (.d (.int n)), none]) S Q
    (try simp (maxSteps := 4000000) (disch := first | omega | decide | assumption | (simp only [List.length_cons, List.length_nil, Nat.reduceAdd, Nat.reduceLeDiff]; done) | (simp only [List.length_cons, List.length_nil, List.length_map, Dz.ints_len]; omega)) only [Dz.wp_noE, Dz.noE_pur, Dz.w_var, Dz.w_c, Dz.w_op, Dz.w_ix, Dz.w_un, Dz.w_test, Dz.w_asB, Dz.w_not, Dz.w_and, Dz.w_or, Dz.w_if, Dz.w_sif, Dz.w_seq, Dz.after_nx, Dz.after_rt, Dz.w_next, Dz.w_ret, Dz.w_set, Dz.w_drop, Dz.w_put, Dz.w_nil, Dz.w_cons, Dz.w_cb, Dz.w_call, Dz.w_tup, Dz.w_lst, Dz.w_cell, Dz.w_for, Dz.w_of, Dz.w_rg, Dz.w_new, Dz.w_newC, Dz.w_lc, Dz.w_join, Dz.w_isS, Dz.w_chain, Dz.w_eand, Dz.w_eor, Dz.w_enot, Dz.w_ltS, Dz.w_leS, Dz.w_is, Dz.w_isnot, Dz.w_inS, Dz.w_rpr, Dz.w_itS, Dz.w_itL, Dz.w_itLs, Dz.w_itT, Dz.w_add, Dz.w_sub, Dz.w_neg, Dz.w_lt, Dz.w_le, Dz.w_gt, Dz.w_ge, Dz.w_int, Dz.w_intb, Dz.w_abs, Dz.w_max, Dz.w_min, Dz.w_lenL, Dz.w_lenT, Dz.w_lenR, Dz.wp_pur, Dz.startE, Dz.w_dtup, Dz.w_dlst, Dz.asDs_nil, Dz.asDs_cons, Dz.w_some, Dz.w_kTup, Dz.w_kLst, Dz.w_addL, Dz.w_addT, Dz.w_sl, Dz.w_oNone, Dz.w_oSome, Dz.w_asI, Dz.w_slL, Dz.w_slT, Dz.w_zp, Dz.w_itZL, Dz.w_itZT, Dz.w_rg3, Dz.w_par, Dz.w_asg, Dz.w_asD, Dz.w_fld, Dz.w_sfd, Dz.w_mk, Dz.w_pro, Dz.w_isI, Dz.w_met, Dz.w_ncb, Dz.w_tupL, Dz.w_tupT, Dz.w_listL, Dz.w_listT, Dz.w_sorted, Dz.w_minI, Dz.w_itA, Dz.w_itAt, Dz.w_itAs, Dz.w_itAz, Dz.w_inT, Dz.w_inL, Dz.w_niT, Dz.w_inD, Dz.w_eqS, Dz.w_neS, Dz.w_eqI, Dz.w_neI, Dz.w_eqB, Dz.w_neB, Dz.w_eqL, Dz.w_neL, Dz.w_eqT, Dz.w_neT, Dz.dunNe_str, Dz.dunNe_bl, Dz.dunNe_int, Dz.dunNe_lst, Dz.dunNe_tup, Dz.dunNe_non, Dz.dunEq_str, Dz.dunEq_bl, Dz.dunEq_int, Dz.dunEq_lst, Dz.dunEq_tup, Dz.dunEq_non, Dz.dunIn_ins, Dz.tBoolX_ins, Dz.w_notB, Dz.w_isB, Dz.wp_bnd, Dz.w_mod, Dz.w_div, Dz.w_itR, Dz.w_itR2, Dz.w_fldD, Dz.w_cm, Dz.w_mkL, Dz.w_isC, Dz.w_fldL, Dz.w_stL, Dz.w_len, Dz.dInts_ints, Dz.ints_len, Dz.w_asgL, Dz.wipeE, Dz.setAll, List.map_cons, List.map_nil, List.length_cons, List.length_nil, List.replicate, List.cons_append, List.nil_append, List.append_nil, List.getElem?_cons_zero, List.getElem?_cons_succ, List.set_cons_zero, List.set_cons_succ, Nat.reduceAdd, Nat.reduceSub, Nat.zero_add, Nat.sub_zero, Bool.not_true, Bool.not_false, if_true, if_false, Bool.false_eq_true, reduceIte, decide_eq_true_eq, Option.map_some, Nat.reduceLeDiff, List.length_map, List.foldl_cons, List.foldl_nil, fld_few])
    exact z, fun _ => rfl⟩]
  (try simp (maxSteps := 4000000) (disch := first | omega | decide | assumption | (simp only [List.length_cons, List.length_nil, Nat.reduceAdd, Nat.reduceLeDiff]; done) | (simp only [List.length_cons, List.length_nil, List.length_map, Dz.ints_len]; omega)) only [Dz.wp_noE, Dz.noE_pur, Dz.w_var, Dz.w_c, Dz.w_op, Dz.w_ix, Dz.w_un, Dz.w_test, Dz.w_asB, Dz.w_not, Dz.w_and, Dz.w_or, Dz.w_if, Dz.w_sif, Dz.w_seq, Dz.after_nx, Dz.after_rt, Dz.w_next, Dz.w_ret, Dz.w_set, Dz.w_drop, Dz.w_put, Dz.w_nil, Dz.w_cons, Dz.w_cb, Dz.w_call, Dz.w_tup, Dz.w_lst, Dz.w_cell, Dz.w_for, Dz.w_of, Dz.w_rg, Dz.w_new, Dz.w_newC, Dz.w_lc, Dz.w_join, Dz.w_isS, Dz.w_chain, Dz.w_eand, Dz.w_eor, Dz.w_enot, Dz.w_ltS, Dz.w_leS, Dz.w_is, Dz.w_isnot, Dz.w_inS, Dz.w_rpr, Dz.w_itS, Dz.w_itL, Dz.w_itLs, Dz.w_itT, Dz.w_add, Dz.w_sub, Dz.w_neg, Dz.w_lt, Dz.w_le, Dz.w_gt, Dz.w_ge, Dz.w_int, Dz.w_intb, Dz.w_abs, Dz.w_max, Dz.w_min, Dz.w_lenL, Dz.w_lenT, Dz.w_lenR, Dz.wp_pur, Dz.startE, Dz.w_dtup, Dz.w_dlst, Dz.asDs_nil, Dz.asDs_cons, Dz.w_some, Dz.w_kTup, Dz.w_kLst, Dz.w_addL, Dz.w_addT, Dz.w_sl, Dz.w_oNone, Dz.w_oSome, Dz.w_asI, Dz.w_slL, Dz.w_slT, Dz.w_zp, Dz.w_itZL, Dz.w_itZT, Dz.w_rg3, Dz.w_par, Dz.w_asg, Dz.w_asD, Dz.w_fld, Dz.w_sfd, Dz.w_mk, Dz.w_pro, Dz.w_isI, Dz.w_met, Dz.w_ncb, Dz.w_tupL, Dz.w_tupT, Dz.w_listL, Dz.w_listT, Dz.w_sorted, Dz.w_minI, Dz.w_itA, Dz.w_itAt, Dz.w_itAs, Dz.w_itAz, Dz.w_inT, Dz.w_inL, Dz.w_niT, Dz.w_inD, Dz.w_eqS, Dz.w_neS, Dz.w_eqI, Dz.w_neI, Dz.w_eqB, Dz.w_neB, Dz.w_eqL, Dz.w_neL, Dz.w_eqT, Dz.w_neT, Dz.dunNe_str, Dz.dunNe_bl, Dz.dunNe_int, Dz.dunNe_lst, Dz.dunNe_tup, Dz.dunNe_non, Dz.dunEq_str, Dz.dunEq_bl, Dz.dunEq_int, Dz.dunEq_lst, Dz.dunEq_tup, Dz.dunEq_non, Dz.dunIn_ins, Dz.tBoolX_ins, Dz.w_notB, Dz.w_isB, Dz.wp_bnd, Dz.w_mod, Dz.w_div, Dz.w_itR, Dz.w_itR2, Dz.w_fldD, Dz.w_cm, Dz.w_mkL, Dz.w_isC, Dz.w_fldL, Dz.w_stL, Dz.w_len, Dz.dInts_ints, Dz.ints_len, Dz.w_asgL, Dz.wipeE, Dz.setAll, List.map_cons, List.map_nil, List.length_cons, List.length_nil, List.replicate, List.cons_append, List.nil_append, List.append_nil, List.getElem?_cons_zero, List.getElem?_cons_succ, List.set_cons_zero, List.set_cons_succ, Nat.reduceAdd, Nat.reduceSub, Nat.zero_add, Nat.sub_zero, Bool.not_true, Bool.not_false, if_true, if_false, Bool.false_eq_true, reduceIte, decide_eq_true_eq, Option.map_some, Nat.reduceLeDiff, List.length_map, List.foldl_cons, List.foldl_nil, fld_per])
  rw [lcL_ints (b := fun n => !decide (n ∈ p.rst)) (v := D.int) _ fun n hn => ⟨pur_wp fun S Q z => by
    show wp (eTest _ [some (.d (insL p)), some (.d (.tup _)), none, none, some (.d (.int n))]) S Q
    (try simp (maxSteps := 4000000) (disch := first | omega | decide | assumption | (simp only [List.length_cons, List.length_nil, Nat.reduceAdd, Nat.reduceLeDiff]; done) | (simp only [List.length_cons, List.length_nil, List.length_map, Dz.ints_len]; omega)) only [Dz.wp_noE, Dz.noE_pur, Dz.w_var, Dz.w_c, Dz.w_op, Dz.w_ix, Dz.w_un, Dz.w_test, Dz.w_asB, Dz.w_not, Dz.w_and, Dz.w_or, Dz.w_if, Dz.w_sif, Dz.w_seq, Dz.after_nx, Dz.after_rt, Dz.w_next, Dz.w_ret, Dz.w_set, Dz.w_drop, Dz.w_put, Dz.w_nil, Dz.w_cons, Dz.w_cb, Dz.w_call, Dz.w_tup, Dz.w_lst, Dz.w_cell, Dz.w_for, Dz.w_of, Dz.w_rg, Dz.w_new, Dz.w_newC, Dz.w_lc, Dz.w_join, Dz.w_isS, Dz.w_chain, Dz.w_eand, Dz.w_eor, Dz.w_enot, Dz.w_ltS, Dz.w_leS, Dz.w_is, Dz.w_isnot, Dz.w_inS, Dz.w_rpr, Dz.w_itS, Dz.w_itL, Dz.w_itLs, Dz.w_itT, Dz.w_add, Dz.w_sub, Dz.w_neg, Dz.w_lt, Dz.w_le, Dz.w_gt, Dz.w_ge, Dz.w_int, Dz.w_intb, Dz.w_abs, Dz.w_max, Dz.w_min, Dz.w_lenL, Dz.w_lenT, Dz.w_lenR, Dz.wp_pur, Dz.startE, Dz.w_dtup, Dz.w_dlst, Dz.asDs_nil, Dz.asDs_cons, Dz.w_some, Dz.w_kTup, Dz.w_kLst, Dz.w_addL, Dz.w_addT, Dz.w_sl, Dz.w_oNone, Dz.w_oSome, Dz.w_asI, Dz.w_slL, Dz.w_slT, Dz.w_zp, Dz.w_itZL, Dz.w_itZT, Dz.w_rg3, Dz.w_par, Dz.w_asg, Dz.w_asD, Dz.w_fld, Dz.w_sfd, Dz.w_mk, Dz.w_pro, Dz.w_isI, Dz.w_met, Dz.w_ncb, Dz.w_tupL, Dz.w_tupT, Dz.w_listL, Dz.w_listT, Dz.w_sorted, Dz.w_minI, Dz.w_itA, Dz.w_itAt, Dz.w_itAs, Dz.w_itAz, Dz.w_inT, Dz.w_inL, Dz.w_niT, Dz.w_inD, Dz.w_eqS, Dz.w_neS, Dz.w_eqI, Dz.w_neI, Dz.w_eqB, Dz.w_neB, Dz.w_eqL, Dz.w_neL, Dz.w_eqT, Dz.w_neT, Dz.dunNe_str, Dz.dunNe_bl, Dz.dunNe_int, Dz.dunNe_lst, Dz.dunNe_tup, Dz.dunNe_non, Dz.dunEq_str, Dz.dunEq_bl, Dz.dunEq_int, Dz.dunEq_lst, Dz.dunEq_tup, Dz.dunEq_non, Dz.dunIn_ins, Dz.tBoolX_ins, Dz.w_notB, Dz.w_isB, Dz.wp_bnd, Dz.w_mod, Dz.w_div, Dz.w_itR, Dz.w_itR2, Dz.w_fldD, Dz.w_cm, Dz.w_mkL, Dz.w_isC, Dz.w_fldL, Dz.w_stL, Dz.w_len, Dz.dInts_ints, Dz.ints_len, Dz.w_asgL, Dz.wipeE, Dz.setAll, List.map_cons, List.map_nil, List.length_cons, List.length_nil, List.replicate, List.cons_append, List.nil_append, List.append_nil, List.getElem?_cons_zero, List.getElem?_cons_succ, List.set_cons_zero, List.set_cons_succ, Nat.reduceAdd, Nat.reduceSub, Nat.zero_add, Nat.sub_zero, Bool.not_true, Bool.not_false, if_true, if_false, Bool.false_eq_true, reduceIte, decide_eq_true_eq, Option.map_some, Nat.reduceLeDiff, List.length_map, List.foldl_cons, List.foldl_nil, fld_rst])
    exact z, fun _ => rfl⟩]
  (try simp (maxSteps := 4000000) (disch := first | omega | decide | assumption | (simp only [List.length_cons, List.length_nil, Nat.reduceAdd, Nat.reduceLeDiff]; done) | (simp only [List.length_cons, List.length_nil, List.length_map, Dz.ints_len]; omega)) only [Dz.wp_noE, Dz.noE_pur, Dz.w_var, Dz.w_c, Dz.w_op, Dz.w_ix, Dz.w_un, Dz.w_test, Dz.w_asB, Dz.w_not, Dz.w_and, Dz.w_or, Dz.w_if, Dz.w_sif, Dz.w_seq, Dz.after_nx, Dz.after_rt, Dz.w_next, Dz.w_ret, Dz.w_set, Dz.w_drop, Dz.w_put, Dz.w_nil, Dz.w_cons, Dz.w_cb, Dz.w_call, Dz.w_tup, Dz.w_lst, Dz.w_cell, Dz.w_for, Dz.w_of, Dz.w_rg, Dz.w_new, Dz.w_newC, Dz.w_lc, Dz.w_join, Dz.w_isS, Dz.w_chain, Dz.w_eand, Dz.w_eor, Dz.w_enot, Dz.w_ltS, Dz.w_leS, Dz.w_is, Dz.w_isnot, Dz.w_inS, Dz.w_rpr, Dz.w_itS, Dz.w_itL, Dz.w_itLs, Dz.w_itT, Dz.w_add, Dz.w_sub, Dz.w_neg, Dz.w_lt, Dz.w_le, Dz.w_gt, Dz.w_ge, Dz.w_int, Dz.w_intb, Dz.w_abs, Dz.w_max, Dz.w_min, Dz.w_lenL, Dz.w_lenT, Dz.w_lenR, Dz.wp_pur, Dz.startE, Dz.w_dtup, Dz.w_dlst, Dz.asDs_nil, Dz.asDs_cons, Dz.w_some, Dz.w_kTup, Dz.w_kLst, Dz.w_addL, Dz.w_addT, Dz.w_sl, Dz.w_oNone, Dz.w_oSome, Dz.w_asI, Dz.w_slL, Dz.w_slT, Dz.w_zp, Dz.w_itZL, Dz.w_itZT, Dz.w_rg3, Dz.w_par, Dz.w_asg, Dz.w_asD, Dz.w_fld, Dz.w_sfd, Dz.w_mk, Dz.w_pro, Dz.w_isI, Dz.w_met, Dz.w_ncb, Dz.w_tupL, Dz.w_tupT, Dz.w_listL, Dz.w_listT, Dz.w_sorted, Dz.w_minI, Dz.w_itA, Dz.w_itAt, Dz.w_itAs, Dz.w_itAz, Dz.w_inT, Dz.w_inL, Dz.w_niT, Dz.w_inD, Dz.w_eqS, Dz.w_neS, Dz.w_eqI, Dz.w_neI, Dz.w_eqB, Dz.w_neB, Dz.w_eqL, Dz.w_neL, Dz.w_eqT, Dz.w_neT, Dz.dunNe_str, Dz.dunNe_bl, Dz.dunNe_int, Dz.dunNe_lst, Dz.dunNe_tup, Dz.dunNe_non, Dz.dunEq_str, Dz.dunEq_bl, Dz.dunEq_int, Dz.dunEq_lst, Dz.dunEq_tup, Dz.dunEq_non, Dz.dunIn_ins, Dz.tBoolX_ins, Dz.w_notB, Dz.w_isB, Dz.wp_bnd, Dz.w_mod, Dz.w_div, Dz.w_itR, Dz.w_itR2, Dz.w_fldD, Dz.w_cm, Dz.w_mkL, Dz.w_isC, Dz.w_fldL, Dz.w_stL, Dz.w_len, Dz.dInts_ints, Dz.ints_len, Dz.w_asgL, Dz.wipeE, Dz.setAll, List.map_cons, List.map_nil, List.length_cons, List.length_nil, List.replicate, List.cons_append, List.nil_append, List.append_nil, List.getElem?_cons_zero, List.getElem?_cons_succ, List.set_cons_zero, List.set_cons_succ, Nat.reduceAdd, Nat.reduceSub, Nat.zero_add, Nat.sub_zero, Bool.not_true, Bool.not_false, if_true, if_false, Bool.false_eq_true, reduceIte, decide_eq_true_eq, Option.map_some, Nat.reduceLeDiff, List.length_map, List.foldl_cons, List.foldl_nil, fld_per, fld_fst])
  have e := make_eq (p := inv p) (inv_ok k)
  refine wp_of e ?_
  exact z
theorem within_eq {p q : Pt} (kp : Ok p) (kq : Ok q) (hl : lc p.per q.per ≤ 2000) : f_Limits_is_within [.d (insL p), .d (insL q)] = pur (.d (.bl (!decide (0 < (canon (jn (fun a b => a && !b) p q)).few.length + (canon (jn (fun a b => a && !b) p q)).rst.length)))) := fn_by fun S Q z => by
  unfold b_Limits_is_within
  (try simp (maxSteps := 4000000) (disch := first | omega | decide | assumption | (simp only [List.length_cons, List.length_nil, Nat.reduceAdd, Nat.reduceLeDiff]; done) | (simp only [List.length_cons, List.length_nil, List.length_map, Dz.ints_len]; omega)) only [Dz.wp_noE, Dz.noE_pur, Dz.w_var, Dz.w_c, Dz.w_op, Dz.w_ix, Dz.w_un, Dz.w_test, Dz.w_asB, Dz.w_not, Dz.w_and, Dz.w_or, Dz.w_if, Dz.w_sif, Dz.w_seq, Dz.after_nx, Dz.after_rt, Dz.w_next, Dz.w_ret, Dz.w_set, Dz.w_drop, Dz.w_put, Dz.w_nil, Dz.w_cons, Dz.w_cb, Dz.w_call, Dz.w_tup, Dz.w_lst, Dz.w_cell, Dz.w_for, Dz.w_of, Dz.w_rg, Dz.w_new, Dz.w_newC, Dz.w_lc, Dz.w_join, Dz.w_isS, Dz.w_chain, Dz.w_eand, Dz.w_eor, Dz.w_enot, Dz.w_ltS, Dz.w_leS, Dz.w_is, Dz.w_isnot, Dz.w_inS, Dz.w_rpr, Dz.w_itS, Dz.w_itL, Dz.w_itLs, Dz.w_itT, Dz.w_add, Dz.w_sub, Dz.w_neg, Dz.w_lt, Dz.w_le, Dz.w_gt, Dz.w_ge, Dz.w_int, Dz.w_intb, Dz.w_abs, Dz.w_max, Dz.w_min, Dz.w_lenL, Dz.w_lenT, Dz.w_lenR, Dz.wp_pur, Dz.startE, Dz.w_dtup, Dz.w_dlst, Dz.asDs_nil, Dz.asDs_cons, Dz.w_some, Dz.w_kTup, Dz.w_kLst, Dz.w_addL, Dz.w_addT, Dz.w_sl, Dz.w_oNone, Dz.w_oSome, Dz.w_asI, Dz.w_slL, Dz.w_slT, Dz.w_zp, Dz.w_itZL, Dz.w_itZT, Dz.w_rg3, Dz.w_par, Dz.w_asg, Dz.w_asD, Dz.w_fld, Dz.w_sfd, Dz.w_mk, Dz.w_pro, Dz.w_isI, Dz.w_met, Dz.w_ncb, Dz.w_tupL, Dz.w_tupT, Dz.w_listL, Dz.w_listT, Dz.w_sorted, Dz.w_minI, Dz.w_itA, Dz.w_itAt, Dz.w_itAs, Dz.w_itAz, Dz.w_inT, Dz.w_inL, Dz.w_niT, Dz.w_inD, Dz.w_eqS, Dz.w_neS, Dz.w_eqI, Dz.w_neI, Dz.w_eqB, Dz.w_neB, Dz.w_eqL, Dz.w_neL, Dz.w_eqT, Dz.w_neT, Dz.dunNe_str, Dz.dunNe_bl, Dz.dunNe_int, Dz.dunNe_lst, Dz.dunNe_tup, Dz.dunNe_non, Dz.dunEq_str, Dz.dunEq_bl, Dz.dunEq_int, Dz.dunEq_lst, Dz.dunEq_tup, Dz.dunEq_non, Dz.dunIn_ins, Dz.tBoolX_ins, Dz.w_notB, Dz.w_isB, Dz.wp_bnd, Dz.w_mod, Dz.w_div, Dz.w_itR, Dz.w_itR2, Dz.w_fldD, Dz.w_cm, Dz.w_mkL, Dz.w_isC, Dz.w_fldL, Dz.w_stL, Dz.w_len, Dz.dInts_ints, Dz.ints_len, Dz.w_asgL, Dz.wipeE, Dz.setAll, List.map_cons, List.map_nil, List.length_cons, List.length_nil, List.replicate, List.cons_append, List.nil_append, List.append_nil, List.getElem?_cons_zero, List.getElem?_cons_succ, List.set_cons_zero, List.set_cons_succ, Nat.reduceAdd, Nat.reduceSub, Nat.zero_add, Nat.sub_zero, Bool.not_true, Bool.not_false, if_true, if_false, Bool.false_eq_true, reduceIte, decide_eq_true_eq, Option.map_some, Nat.reduceLeDiff, List.length_map, List.foldl_cons, List.foldl_nil, joined_eq kp kq hl wnt_sub])
  rw [insL, tBoolX_ins, ← insL, wp_bnd, bool_eq]
  (try simp (maxSteps := 4000000) (disch := first | omega | decide | assumption | (simp only [List.length_cons, List.length_nil, Nat.reduceAdd, Nat.reduceLeDiff]; done) | (simp only [List.length_cons, List.length_nil, List.length_map, Dz.ints_len]; omega)) only [Dz.wp_noE, Dz.noE_pur, Dz.w_var, Dz.w_c, Dz.w_op, Dz.w_ix, Dz.w_un, Dz.w_test, Dz.w_asB, Dz.w_not, Dz.w_and, Dz.w_or, Dz.w_if, Dz.w_sif, Dz.w_seq, Dz.after_nx, Dz.after_rt, Dz.w_next, Dz.w_ret, Dz.w_set, Dz.w_drop, Dz.w_put, Dz.w_nil, Dz.w_cons, Dz.w_cb, Dz.w_call, Dz.w_tup, Dz.w_lst, Dz.w_cell, Dz.w_for, Dz.w_of, Dz.w_rg, Dz.w_new, Dz.w_newC, Dz.w_lc, Dz.w_join, Dz.w_isS, Dz.w_chain, Dz.w_eand, Dz.w_eor, Dz.w_enot, Dz.w_ltS, Dz.w_leS, Dz.w_is, Dz.w_isnot, Dz.w_inS, Dz.w_rpr, Dz.w_itS, Dz.w_itL, Dz.w_itLs, Dz.w_itT, Dz.w_add, Dz.w_sub, Dz.w_neg, Dz.w_lt, Dz.w_le, Dz.w_gt, Dz.w_ge, Dz.w_int, Dz.w_intb, Dz.w_abs, Dz.w_max, Dz.w_min, Dz.w_lenL, Dz.w_lenT, Dz.w_lenR, Dz.wp_pur, Dz.startE, Dz.w_dtup, Dz.w_dlst, Dz.asDs_nil, Dz.asDs_cons, Dz.w_some, Dz.w_kTup, Dz.w_kLst, Dz.w_addL, Dz.w_addT, Dz.w_sl, Dz.w_oNone, Dz.w_oSome, Dz.w_asI, Dz.w_slL, Dz.w_slT, Dz.w_zp, Dz.w_itZL, Dz.w_itZT, Dz.w_rg3, Dz.w_par, Dz.w_asg, Dz.w_asD, Dz.w_fld, Dz.w_sfd, Dz.w_mk, Dz.w_pro, Dz.w_isI, Dz.w_met, Dz.w_ncb, Dz.w_tupL, Dz.w_tupT, Dz.w_listL, Dz.w_listT, Dz.w_sorted, Dz.w_minI, Dz.w_itA, Dz.w_itAt, Dz.w_itAs, Dz.w_itAz, Dz.w_inT, Dz.w_inL, Dz.w_niT, Dz.w_inD, Dz.w_eqS, Dz.w_neS, Dz.w_eqI, Dz.w_neI, Dz.w_eqB, Dz.w_neB, Dz.w_eqL, Dz.w_neL, Dz.w_eqT, Dz.w_neT, Dz.dunNe_str, Dz.dunNe_bl, Dz.dunNe_int, Dz.dunNe_lst, Dz.dunNe_tup, Dz.dunNe_non, Dz.dunEq_str, Dz.dunEq_bl, Dz.dunEq_int, Dz.dunEq_lst, Dz.dunEq_tup, Dz.dunEq_non, Dz.dunIn_ins, Dz.tBoolX_ins, Dz.w_notB, Dz.w_isB, Dz.wp_bnd, Dz.w_mod, Dz.w_div, Dz.w_itR, Dz.w_itR2, Dz.w_fldD, Dz.w_cm, Dz.w_mkL, Dz.w_isC, Dz.w_fldL, Dz.w_stL, Dz.w_len, Dz.dInts_ints, Dz.ints_len, Dz.w_asgL, Dz.wipeE, Dz.setAll, List.map_cons, List.map_nil, List.length_cons, List.length_nil, List.replicate, List.cons_append, List.nil_append, List.append_nil, List.getElem?_cons_zero, List.getElem?_cons_succ, List.set_cons_zero, List.set_cons_succ, Nat.reduceAdd, Nat.reduceSub, Nat.zero_add, Nat.sub_zero, Bool.not_true, Bool.not_false, if_true, if_false, Bool.false_eq_true, reduceIte, decide_eq_true_eq, Option.map_some, Nat.reduceLeDiff, List.length_map, List.foldl_cons, List.foldl_nil])
  exact z
theorem every_eq : f_Limits_every [.d (.cls "Limits")] = pur (.d (insL ⟨[], 0, 1, [0]⟩)) := fn_by fun S Q z => by
  unfold b_Limits_every
  (try simp (maxSteps := 4000000) (disch := first | omega | decide | assumption | (simp only [List.length_cons, List.length_nil, Nat.reduceAdd, Nat.reduceLeDiff]; done) | (simp only [List.length_cons, List.length_nil, List.length_map, Dz.ints_len]; omega)) only [Dz.wp_noE, Dz.noE_pur, Dz.w_var, Dz.w_c, Dz.w_op, Dz.w_ix, Dz.w_un, Dz.w_test, Dz.w_asB, Dz.w_not, Dz.w_and, Dz.w_or, Dz.w_if, Dz.w_sif, Dz.w_seq, Dz.after_nx, Dz.after_rt, Dz.w_next, Dz.w_ret, Dz.w_set, Dz.w_drop, Dz.w_put, Dz.w_nil, Dz.w_cons, Dz.w_cb, Dz.w_call, Dz.w_tup, Dz.w_lst, Dz.w_cell, Dz.w_for, Dz.w_of, Dz.w_rg, Dz.w_new, Dz.w_newC, Dz.w_lc, Dz.w_join, Dz.w_isS, Dz.w_chain, Dz.w_eand, Dz.w_eor, Dz.w_enot, Dz.w_ltS, Dz.w_leS, Dz.w_is, Dz.w_isnot, Dz.w_inS, Dz.w_rpr, Dz.w_itS, Dz.w_itL, Dz.w_itLs, Dz.w_itT, Dz.w_add, Dz.w_sub, Dz.w_neg, Dz.w_lt, Dz.w_le, Dz.w_gt, Dz.w_ge, Dz.w_int, Dz.w_intb, Dz.w_abs, Dz.w_max, Dz.w_min, Dz.w_lenL, Dz.w_lenT, Dz.w_lenR, Dz.wp_pur, Dz.startE, Dz.w_dtup, Dz.w_dlst, Dz.asDs_nil, Dz.asDs_cons, Dz.w_some, Dz.w_kTup, Dz.w_kLst, Dz.w_addL, Dz.w_addT, Dz.w_sl, Dz.w_oNone, Dz.w_oSome, Dz.w_asI, Dz.w_slL, Dz.w_slT, Dz.w_zp, Dz.w_itZL, Dz.w_itZT, Dz.w_rg3, Dz.w_par, Dz.w_asg, Dz.w_asD, Dz.w_fld, Dz.w_sfd, Dz.w_mk, Dz.w_pro, Dz.w_isI, Dz.w_met, Dz.w_ncb, Dz.w_tupL, Dz.w_tupT, Dz.w_listL, Dz.w_listT, Dz.w_sorted, Dz.w_minI, Dz.w_itA, Dz.w_itAt, Dz.w_itAs, Dz.w_itAz, Dz.w_inT, Dz.w_inL, Dz.w_niT, Dz.w_inD, Dz.w_eqS, Dz.w_neS, Dz.w_eqI, Dz.w_neI, Dz.w_eqB, Dz.w_neB, Dz.w_eqL, Dz.w_neL, Dz.w_eqT, Dz.w_neT, Dz.dunNe_str, Dz.dunNe_bl, Dz.dunNe_int, Dz.dunNe_lst, Dz.dunNe_tup, Dz.dunNe_non, Dz.dunEq_str, Dz.dunEq_bl, Dz.dunEq_int, Dz.dunEq_lst, Dz.dunEq_tup, Dz.dunEq_non, Dz.dunIn_ins, Dz.tBoolX_ins, Dz.w_notB, Dz.w_isB, Dz.wp_bnd, Dz.w_mod, Dz.w_div, Dz.w_itR, Dz.w_itR2, Dz.w_fldD, Dz.w_cm, Dz.w_mkL, Dz.w_isC, Dz.w_fldL, Dz.w_stL, Dz.w_len, Dz.dInts_ints, Dz.ints_len, Dz.w_asgL, Dz.wipeE, Dz.setAll, List.map_cons, List.map_nil, List.length_cons, List.length_nil, List.replicate, List.cons_append, List.nil_append, List.append_nil, List.getElem?_cons_zero, List.getElem?_cons_succ, List.set_cons_zero, List.set_cons_succ, Nat.reduceAdd, Nat.reduceSub, Nat.zero_add, Nat.sub_zero, Bool.not_true, Bool.not_false, if_true, if_false, Bool.false_eq_true, reduceIte, decide_eq_true_eq, Option.map_some, Nat.reduceLeDiff, List.length_map, List.foldl_cons, List.foldl_nil])
  have e := make_eq (p := ⟨[], 0, 1, [0]⟩) (okB_ok (by decide +kernel))
  rw [show canon ⟨[], 0, 1, [0]⟩ = ⟨[], 0, 1, [0]⟩ from ptEq_iff.mp (by decide +kernel)] at e
  exact wp_of e z
theorem none_eq : f_Limits_none [.d (.cls "Limits")] = pur (.d (insL ⟨[], 0, 1, []⟩)) := fn_by fun S Q z => by
  unfold b_Limits_none
  (try simp (maxSteps := 4000000) (disch := first | omega | decide | assumption | (simp only [List.length_cons, List.length_nil, Nat.reduceAdd, Nat.reduceLeDiff]; done) | (simp only [List.length_cons, List.length_nil, List.length_map, Dz.ints_len]; omega)) only [Dz.wp_noE, Dz.noE_pur, Dz.w_var, Dz.w_c, Dz.w_op, Dz.w_ix, Dz.w_un, Dz.w_test, Dz.w_asB, Dz.w_not, Dz.w_and, Dz.w_or, Dz.w_if, Dz.w_sif, Dz.w_seq, Dz.after_nx, Dz.after_rt, Dz.w_next, Dz.w_ret, Dz.w_set, Dz.w_drop, Dz.w_put, Dz.w_nil, Dz.w_cons, Dz.w_cb, Dz.w_call, Dz.w_tup, Dz.w_lst, Dz.w_cell, Dz.w_for, Dz.w_of, Dz.w_rg, Dz.w_new, Dz.w_newC, Dz.w_lc, Dz.w_join, Dz.w_isS, Dz.w_chain, Dz.w_eand, Dz.w_eor, Dz.w_enot, Dz.w_ltS, Dz.w_leS, Dz.w_is, Dz.w_isnot, Dz.w_inS, Dz.w_rpr, Dz.w_itS, Dz.w_itL, Dz.w_itLs, Dz.w_itT, Dz.w_add, Dz.w_sub, Dz.w_neg, Dz.w_lt, Dz.w_le, Dz.w_gt, Dz.w_ge, Dz.w_int, Dz.w_intb, Dz.w_abs, Dz.w_max, Dz.w_min, Dz.w_lenL, Dz.w_lenT, Dz.w_lenR, Dz.wp_pur, Dz.startE, Dz.w_dtup, Dz.w_dlst, Dz.asDs_nil, Dz.asDs_cons, Dz.w_some, Dz.w_kTup, Dz.w_kLst, Dz.w_addL, Dz.w_addT, Dz.w_sl, Dz.w_oNone, Dz.w_oSome, Dz.w_asI, Dz.w_slL, Dz.w_slT, Dz.w_zp, Dz.w_itZL, Dz.w_itZT, Dz.w_rg3, Dz.w_par, Dz.w_asg, Dz.w_asD, Dz.w_fld, Dz.w_sfd, Dz.w_mk, Dz.w_pro, Dz.w_isI, Dz.w_met, Dz.w_ncb, Dz.w_tupL, Dz.w_tupT, Dz.w_listL, Dz.w_listT, Dz.w_sorted, Dz.w_minI, Dz.w_itA, Dz.w_itAt, Dz.w_itAs, Dz.w_itAz, Dz.w_inT, Dz.w_inL, Dz.w_niT, Dz.w_inD, Dz.w_eqS, Dz.w_neS, Dz.w_eqI, Dz.w_neI, Dz.w_eqB, Dz.w_neB, Dz.w_eqL, Dz.w_neL, Dz.w_eqT, Dz.w_neT, Dz.dunNe_str, Dz.dunNe_bl, Dz.dunNe_int, Dz.dunNe_lst, Dz.dunNe_tup, Dz.dunNe_non, Dz.dunEq_str, Dz.dunEq_bl, Dz.dunEq_int, Dz.dunEq_lst, Dz.dunEq_tup, Dz.dunEq_non, Dz.dunIn_ins, Dz.tBoolX_ins, Dz.w_notB, Dz.w_isB, Dz.wp_bnd, Dz.w_mod, Dz.w_div, Dz.w_itR, Dz.w_itR2, Dz.w_fldD, Dz.w_cm, Dz.w_mkL, Dz.w_isC, Dz.w_fldL, Dz.w_stL, Dz.w_len, Dz.dInts_ints, Dz.ints_len, Dz.w_asgL, Dz.wipeE, Dz.setAll, List.map_cons, List.map_nil, List.length_cons, List.length_nil, List.replicate, List.cons_append, List.nil_append, List.append_nil, List.getElem?_cons_zero, List.getElem?_cons_succ, List.set_cons_zero, List.set_cons_succ, Nat.reduceAdd, Nat.reduceSub, Nat.zero_add, Nat.sub_zero, Bool.not_true, Bool.not_false, if_true, if_false, Bool.false_eq_true, reduceIte, decide_eq_true_eq, Option.map_some, Nat.reduceLeDiff, List.length_map, List.foldl_cons, List.foldl_nil])
  have e := make_eq (p := ⟨[], 0, 1, []⟩) (okB_ok (by decide +kernel))
  rw [show canon ⟨[], 0, 1, []⟩ = ⟨[], 0, 1, []⟩ from ptEq_iff.mp (by decide +kernel)] at e
  exact wp_of e z
end K03

namespace K03
open PySem PySem.Spec PyProof.Rows L2 Dz
open Lim
section
variable {p q : Pt} {B : Int}
theorem Sm.lt (s : Sm B p) (t : Sm B q) : lc p.per q.per ≤ 2000 := by have := s.l60 t; omega
theorem and_s (s : Sm 9 p) (t : Sm 9 q) : dunBin "Limits" f_Limits___and__ g0 (.d (insL p)) (.d (insL q)) = pur (.d (insL (canon (jn (fun a b => a && b) p q)))) := by
  rw [iL, iL, dunBin_ins, ← iL, ← iL]; exact and_eq s.ok t.ok (Sm.lt s t)
theorem or_s (s : Sm 9 p) (t : Sm 9 q) : dunBin "Limits" f_Limits___or__ g0 (.d (insL p)) (.d (insL q)) = pur (.d (insL (canon (jn (fun a b => a || b) p q)))) := by
  rw [iL, iL, dunBin_ins, ← iL, ← iL]; exact or_eq s.ok t.ok (Sm.lt s t)
theorem xor_s (s : Sm 9 p) (t : Sm 9 q) : dunBin "Limits" f_Limits___xor__ g0 (.d (insL p)) (.d (insL q)) = pur (.d (insL (canon (jn (fun a b => a != b) p q)))) := by
  rw [iL, iL, dunBin_ins, ← iL, ← iL]; exact xor_eq s.ok t.ok (Sm.lt s t)
theorem sub_s (s : Sm 9 p) (t : Sm 9 q) : dunBin "Limits" f_Limits___sub__ opSub (.d (insL p)) (.d (insL q)) = pur (.d (insL (canon (jn (fun a b => a && !b) p q)))) := by
  rw [iL, iL, dunBin_ins, ← iL, ← iL]; exact sub_eq s.ok t.ok (Sm.lt s t)
theorem inv_s (s : Sm 9 p) : dunUn "Limits" f_Limits___invert__ (.d (insL p)) = pur (.d (insL (canon (inv p)))) := by
  rw [iL, dunUn_ins, ← iL]; exact invert_eq s.ok
theorem within_s (s : Sm 9 p) (t : Sm 9 q) : f_Limits_is_within [.d (insL p), .d (insL q)] = pur (.d (.bl (!decide (0 < (canon (jn (fun a b => a && !b) p q)).few.length + (canon (jn (fun a b => a && !b) p q)).rst.length)))) := within_eq s.ok t.ok (Sm.lt s t)
theorem hs_c (s : Sm 9 p) {n : Int} : has (canon p) n = has p n := canon_has s.ok n
theorem hs_j {w : Bool → Bool → Bool} (s : Sm 9 p) (t : Sm 9 q) {n : Int} (hn : 0 ≤ n) : has (jn w p q) n = w (has p n) (has q n) := jn_has s.ok t.ok hn
theorem hs_i (s : Sm 9 p) {n : Int} (hn : 0 ≤ n) : has (inv p) n = !has p n := inv_has s.ok hn
theorem eq_by (s : Sm 9 p) (t : Sm 9 q) (h : ∀ n, 0 ≤ n → has p n = has q n) : ptEq (canon p) (canon q) = true := ptEq_iff.mpr (canon_uniq s.ok t.ok h)
theorem eq_by2 (s : Sm 9 p) (t : Sm 9 q) (h : ∀ n, 0 ≤ n → has p n = has (canon q) n) : ptEq (canon p) (canon q) = true := eq_by s t fun n hn => by rw [h n hn, canon_has t.ok]
theorem some_s (s : Sm 9 p) : decide (0 < (canon p).few.length + (canon p).rst.length) = true ↔ ∃ n, 0 ≤ n ∧ has p n = true := by
  rw [decide_eq_true_eq, some_mem s.canon.ok]
  constructor
  · rintro ⟨n, h, z⟩; exact ⟨n, h, by rw [← z, canon_has s.ok]⟩
  · rintro ⟨n, h, z⟩; exact ⟨n, h, by rw [← z, canon_has s.ok]⟩
end
/-! ### the law's own ways -/
theorem due_and (a b : Bool) : f__law_due [.d (.str "and"), .d (.bl a), .d (.bl b)] = pur (.d (.bl (a && b))) := fn_by fun S Q z => by
  unfold b__law_due
  (try simp (maxSteps := 4000000) (disch := first | omega | decide | assumption | (simp only [List.length_cons, List.length_nil, Nat.reduceAdd, Nat.reduceLeDiff]; done) | (simp only [List.length_cons, List.length_nil, List.length_map, Dz.ints_len]; omega)) only [Dz.wp_noE, Dz.noE_pur, Dz.w_var, Dz.w_c, Dz.w_op, Dz.w_ix, Dz.w_un, Dz.w_test, Dz.w_asB, Dz.w_not, Dz.w_and, Dz.w_or, Dz.w_if, Dz.w_sif, Dz.w_seq, Dz.after_nx, Dz.after_rt, Dz.w_next, Dz.w_ret, Dz.w_set, Dz.w_drop, Dz.w_put, Dz.w_nil, Dz.w_cons, Dz.w_cb, Dz.w_call, Dz.w_tup, Dz.w_lst, Dz.w_cell, Dz.w_for, Dz.w_of, Dz.w_rg, Dz.w_new, Dz.w_newC, Dz.w_lc, Dz.w_join, Dz.w_isS, Dz.w_chain, Dz.w_eand, Dz.w_eor, Dz.w_enot, Dz.w_ltS, Dz.w_leS, Dz.w_is, Dz.w_isnot, Dz.w_inS, Dz.w_rpr, Dz.w_itS, Dz.w_itL, Dz.w_itLs, Dz.w_itT, Dz.w_add, Dz.w_sub, Dz.w_neg, Dz.w_lt, Dz.w_le, Dz.w_gt, Dz.w_ge, Dz.w_int, Dz.w_intb, Dz.w_abs, Dz.w_max, Dz.w_min, Dz.w_lenL, Dz.w_lenT, Dz.w_lenR, Dz.wp_pur, Dz.startE, Dz.w_dtup, Dz.w_dlst, Dz.asDs_nil, Dz.asDs_cons, Dz.w_some, Dz.w_kTup, Dz.w_kLst, Dz.w_addL, Dz.w_addT, Dz.w_sl, Dz.w_oNone, Dz.w_oSome, Dz.w_asI, Dz.w_slL, Dz.w_slT, Dz.w_zp, Dz.w_itZL, Dz.w_itZT, Dz.w_rg3, Dz.w_par, Dz.w_asg, Dz.w_asD, Dz.w_fld, Dz.w_sfd, Dz.w_mk, Dz.w_pro, Dz.w_isI, Dz.w_met, Dz.w_ncb, Dz.w_tupL, Dz.w_tupT, Dz.w_listL, Dz.w_listT, Dz.w_sorted, Dz.w_minI, Dz.w_itA, Dz.w_itAt, Dz.w_itAs, Dz.w_itAz, Dz.w_inT, Dz.w_inL, Dz.w_niT, Dz.w_inD, Dz.w_eqS, Dz.w_neS, Dz.w_eqI, Dz.w_neI, Dz.w_eqB, Dz.w_neB, Dz.w_eqL, Dz.w_neL, Dz.w_eqT, Dz.w_neT, Dz.dunNe_str, Dz.dunNe_bl, Dz.dunNe_int, Dz.dunNe_lst, Dz.dunNe_tup, Dz.dunNe_non, Dz.dunEq_str, Dz.dunEq_bl, Dz.dunEq_int, Dz.dunEq_lst, Dz.dunEq_tup, Dz.dunEq_non, Dz.dunIn_ins, Dz.tBoolX_ins, Dz.w_notB, Dz.w_isB, Dz.wp_bnd, Dz.w_mod, Dz.w_div, Dz.w_itR, Dz.w_itR2, Dz.w_fldD, Dz.w_cm, Dz.w_mkL, Dz.w_isC, Dz.w_fldL, Dz.w_stL, Dz.w_len, Dz.dInts_ints, Dz.ints_len, Dz.w_asgL, Dz.wipeE, Dz.setAll, List.map_cons, List.map_nil, List.length_cons, List.length_nil, List.replicate, List.cons_append, List.nil_append, List.append_nil, List.getElem?_cons_zero, List.getElem?_cons_succ, List.set_cons_zero, List.set_cons_succ, Nat.reduceAdd, Nat.reduceSub, Nat.zero_add, Nat.sub_zero, Bool.not_true, Bool.not_false, if_true, if_false, Bool.false_eq_true, reduceIte, decide_eq_true_eq, Option.map_some, Nat.reduceLeDiff, List.length_map, List.foldl_cons, List.foldl_nil])
  rw [if_pos (by decide)]
  cases a <;> exact z
theorem due_or (a b : Bool) : f__law_due [.d (.str "or"), .d (.bl a), .d (.bl b)] = pur (.d (.bl (a || b))) := fn_by fun S Q z => by
  unfold b__law_due
  (try simp (maxSteps := 4000000) (disch := first | omega | decide | assumption | (simp only [List.length_cons, List.length_nil, Nat.reduceAdd, Nat.reduceLeDiff]; done) | (simp only [List.length_cons, List.length_nil, List.length_map, Dz.ints_len]; omega)) only [Dz.wp_noE, Dz.noE_pur, Dz.w_var, Dz.w_c, Dz.w_op, Dz.w_ix, Dz.w_un, Dz.w_test, Dz.w_asB, Dz.w_not, Dz.w_and, Dz.w_or, Dz.w_if, Dz.w_sif, Dz.w_seq, Dz.after_nx, Dz.after_rt, Dz.w_next, Dz.w_ret, Dz.w_set, Dz.w_drop, Dz.w_put, Dz.w_nil, Dz.w_cons, Dz.w_cb, Dz.w_call, Dz.w_tup, Dz.w_lst, Dz.w_cell, Dz.w_for, Dz.w_of, Dz.w_rg, Dz.w_new, Dz.w_newC, Dz.w_lc, Dz.w_join, Dz.w_isS, Dz.w_chain, Dz.w_eand, Dz.w_eor, Dz.w_enot, Dz.w_ltS, Dz.w_leS, Dz.w_is, Dz.w_isnot, Dz.w_inS, Dz.w_rpr, Dz.w_itS, Dz.w_itL, Dz.w_itLs, Dz.w_itT, Dz.w_add, Dz.w_sub, Dz.w_neg, Dz.w_lt, Dz.w_le, Dz.w_gt, Dz.w_ge, Dz.w_int, Dz.w_intb, Dz.w_abs, Dz.w_max, Dz.w_min, Dz.w_lenL, Dz.w_lenT, Dz.w_lenR, Dz.wp_pur, Dz.startE, Dz.w_dtup, Dz.w_dlst, Dz.asDs_nil, Dz.asDs_cons, Dz.w_some, Dz.w_kTup, Dz.w_kLst, Dz.w_addL, Dz.w_addT, Dz.w_sl, Dz.w_oNone, Dz.w_oSome, Dz.w_asI, Dz.w_slL, Dz.w_slT, Dz.w_zp, Dz.w_itZL, Dz.w_itZT, Dz.w_rg3, Dz.w_par, Dz.w_asg, Dz.w_asD, Dz.w_fld, Dz.w_sfd, Dz.w_mk, Dz.w_pro, Dz.w_isI, Dz.w_met, Dz.w_ncb, Dz.w_tupL, Dz.w_tupT, Dz.w_listL, Dz.w_listT, Dz.w_sorted, Dz.w_minI, Dz.w_itA, Dz.w_itAt, Dz.w_itAs, Dz.w_itAz, Dz.w_inT, Dz.w_inL, Dz.w_niT, Dz.w_inD, Dz.w_eqS, Dz.w_neS, Dz.w_eqI, Dz.w_neI, Dz.w_eqB, Dz.w_neB, Dz.w_eqL, Dz.w_neL, Dz.w_eqT, Dz.w_neT, Dz.dunNe_str, Dz.dunNe_bl, Dz.dunNe_int, Dz.dunNe_lst, Dz.dunNe_tup, Dz.dunNe_non, Dz.dunEq_str, Dz.dunEq_bl, Dz.dunEq_int, Dz.dunEq_lst, Dz.dunEq_tup, Dz.dunEq_non, Dz.dunIn_ins, Dz.tBoolX_ins, Dz.w_notB, Dz.w_isB, Dz.wp_bnd, Dz.w_mod, Dz.w_div, Dz.w_itR, Dz.w_itR2, Dz.w_fldD, Dz.w_cm, Dz.w_mkL, Dz.w_isC, Dz.w_fldL, Dz.w_stL, Dz.w_len, Dz.dInts_ints, Dz.ints_len, Dz.w_asgL, Dz.wipeE, Dz.setAll, List.map_cons, List.map_nil, List.length_cons, List.length_nil, List.replicate, List.cons_append, List.nil_append, List.append_nil, List.getElem?_cons_zero, List.getElem?_cons_succ, List.set_cons_zero, List.set_cons_succ, Nat.reduceAdd, Nat.reduceSub, Nat.zero_add, Nat.sub_zero, Bool.not_true, Bool.not_false, if_true, if_false, Bool.false_eq_true, reduceIte, decide_eq_true_eq, Option.map_some, Nat.reduceLeDiff, List.length_map, List.foldl_cons, List.foldl_nil])
  rw [if_neg (by decide), if_pos (by decide)]
  cases a <;> exact z
theorem due_xor (a b : Bool) : f__law_due [.d (.str "xor"), .d (.bl a), .d (.bl b)] = pur (.d (.bl (a != b))) := fn_by fun S Q z => by
  unfold b__law_due
  (try simp (maxSteps := 4000000) (disch := first | omega | decide | assumption | (simp only [List.length_cons, List.length_nil, Nat.reduceAdd, Nat.reduceLeDiff]; done) | (simp only [List.length_cons, List.length_nil, List.length_map, Dz.ints_len]; omega)) only [Dz.wp_noE, Dz.noE_pur, Dz.w_var, Dz.w_c, Dz.w_op, Dz.w_ix, Dz.w_un, Dz.w_test, Dz.w_asB, Dz.w_not, Dz.w_and, Dz.w_or, Dz.w_if, Dz.w_sif, Dz.w_seq, Dz.after_nx, Dz.after_rt, Dz.w_next, Dz.w_ret, Dz.w_set, Dz.w_drop, Dz.w_put, Dz.w_nil, Dz.w_cons, Dz.w_cb, Dz.w_call, Dz.w_tup, Dz.w_lst, Dz.w_cell, Dz.w_for, Dz.w_of, Dz.w_rg, Dz.w_new, Dz.w_newC, Dz.w_lc, Dz.w_join, Dz.w_isS, Dz.w_chain, Dz.w_eand, Dz.w_eor, Dz.w_enot, Dz.w_ltS, Dz.w_leS, Dz.w_is, Dz.w_isnot, Dz.w_inS, Dz.w_rpr, Dz.w_itS, Dz.w_itL, Dz.w_itLs, Dz.w_itT, Dz.w_add, Dz.w_sub, Dz.w_neg, Dz.w_lt, Dz.w_le, Dz.w_gt, Dz.w_ge, Dz.w_int, Dz.w_intb, Dz.w_abs, Dz.w_max, Dz.w_min, Dz.w_lenL, Dz.w_lenT, Dz.w_lenR, Dz.wp_pur, Dz.startE, Dz.w_dtup, Dz.w_dlst, Dz.asDs_nil, Dz.asDs_cons, Dz.w_some, Dz.w_kTup, Dz.w_kLst, Dz.w_addL, Dz.w_addT, Dz.w_sl, Dz.w_oNone, Dz.w_oSome, Dz.w_asI, Dz.w_slL, Dz.w_slT, Dz.w_zp, Dz.w_itZL, Dz.w_itZT, Dz.w_rg3, Dz.w_par, Dz.w_asg, Dz.w_asD, Dz.w_fld, Dz.w_sfd, Dz.w_mk, Dz.w_pro, Dz.w_isI, Dz.w_met, Dz.w_ncb, Dz.w_tupL, Dz.w_tupT, Dz.w_listL, Dz.w_listT, Dz.w_sorted, Dz.w_minI, Dz.w_itA, Dz.w_itAt, Dz.w_itAs, Dz.w_itAz, Dz.w_inT, Dz.w_inL, Dz.w_niT, Dz.w_inD, Dz.w_eqS, Dz.w_neS, Dz.w_eqI, Dz.w_neI, Dz.w_eqB, Dz.w_neB, Dz.w_eqL, Dz.w_neL, Dz.w_eqT, Dz.w_neT, Dz.dunNe_str, Dz.dunNe_bl, Dz.dunNe_int, Dz.dunNe_lst, Dz.dunNe_tup, Dz.dunNe_non, Dz.dunEq_str, Dz.dunEq_bl, Dz.dunEq_int, Dz.dunEq_lst, Dz.dunEq_tup, Dz.dunEq_non, Dz.dunIn_ins, Dz.tBoolX_ins, Dz.w_notB, Dz.w_isB, Dz.wp_bnd, Dz.w_mod, Dz.w_div, Dz.w_itR, Dz.w_itR2, Dz.w_fldD, Dz.w_cm, Dz.w_mkL, Dz.w_isC, Dz.w_fldL, Dz.w_stL, Dz.w_len, Dz.dInts_ints, Dz.ints_len, Dz.w_asgL, Dz.wipeE, Dz.setAll, List.map_cons, List.map_nil, List.length_cons, List.length_nil, List.replicate, List.cons_append, List.nil_append, List.append_nil, List.getElem?_cons_zero, List.getElem?_cons_succ, List.set_cons_zero, List.set_cons_succ, Nat.reduceAdd, Nat.reduceSub, Nat.zero_add, Nat.sub_zero, Bool.not_true, Bool.not_false, if_true, if_false, Bool.false_eq_true, reduceIte, decide_eq_true_eq, Option.map_some, Nat.reduceLeDiff, List.length_map, List.foldl_cons, List.foldl_nil])
  rw [if_neg (by decide), if_neg (by decide), if_pos (by decide)]
  exact z
theorem due_less (a b : Bool) : f__law_due [.d (.str "less"), .d (.bl a), .d (.bl b)] = pur (.d (.bl (a && !b))) := fn_by fun S Q z => by
  unfold b__law_due
  (try simp (maxSteps := 4000000) (disch := first | omega | decide | assumption | (simp only [List.length_cons, List.length_nil, Nat.reduceAdd, Nat.reduceLeDiff]; done) | (simp only [List.length_cons, List.length_nil, List.length_map, Dz.ints_len]; omega)) only [Dz.wp_noE, Dz.noE_pur, Dz.w_var, Dz.w_c, Dz.w_op, Dz.w_ix, Dz.w_un, Dz.w_test, Dz.w_asB, Dz.w_not, Dz.w_and, Dz.w_or, Dz.w_if, Dz.w_sif, Dz.w_seq, Dz.after_nx, Dz.after_rt, Dz.w_next, Dz.w_ret, Dz.w_set, Dz.w_drop, Dz.w_put, Dz.w_nil, Dz.w_cons, Dz.w_cb, Dz.w_call, Dz.w_tup, Dz.w_lst, Dz.w_cell, Dz.w_for, Dz.w_of, Dz.w_rg, Dz.w_new, Dz.w_newC, Dz.w_lc, Dz.w_join, Dz.w_isS, Dz.w_chain, Dz.w_eand, Dz.w_eor, Dz.w_enot, Dz.w_ltS, Dz.w_leS, Dz.w_is, Dz.w_isnot, Dz.w_inS, Dz.w_rpr, Dz.w_itS, Dz.w_itL, Dz.w_itLs, Dz.w_itT, Dz.w_add, Dz.w_sub, Dz.w_neg, Dz.w_lt, Dz.w_le, Dz.w_gt, Dz.w_ge, Dz.w_int, Dz.w_intb, Dz.w_abs, Dz.w_max, Dz.w_min, Dz.w_lenL, Dz.w_lenT, Dz.w_lenR, Dz.wp_pur, Dz.startE, Dz.w_dtup, Dz.w_dlst, Dz.asDs_nil, Dz.asDs_cons, Dz.w_some, Dz.w_kTup, Dz.w_kLst, Dz.w_addL, Dz.w_addT, Dz.w_sl, Dz.w_oNone, Dz.w_oSome, Dz.w_asI, Dz.w_slL, Dz.w_slT, Dz.w_zp, Dz.w_itZL, Dz.w_itZT, Dz.w_rg3, Dz.w_par, Dz.w_asg, Dz.w_asD, Dz.w_fld, Dz.w_sfd, Dz.w_mk, Dz.w_pro, Dz.w_isI, Dz.w_met, Dz.w_ncb, Dz.w_tupL, Dz.w_tupT, Dz.w_listL, Dz.w_listT, Dz.w_sorted, Dz.w_minI, Dz.w_itA, Dz.w_itAt, Dz.w_itAs, Dz.w_itAz, Dz.w_inT, Dz.w_inL, Dz.w_niT, Dz.w_inD, Dz.w_eqS, Dz.w_neS, Dz.w_eqI, Dz.w_neI, Dz.w_eqB, Dz.w_neB, Dz.w_eqL, Dz.w_neL, Dz.w_eqT, Dz.w_neT, Dz.dunNe_str, Dz.dunNe_bl, Dz.dunNe_int, Dz.dunNe_lst, Dz.dunNe_tup, Dz.dunNe_non, Dz.dunEq_str, Dz.dunEq_bl, Dz.dunEq_int, Dz.dunEq_lst, Dz.dunEq_tup, Dz.dunEq_non, Dz.dunIn_ins, Dz.tBoolX_ins, Dz.w_notB, Dz.w_isB, Dz.wp_bnd, Dz.w_mod, Dz.w_div, Dz.w_itR, Dz.w_itR2, Dz.w_fldD, Dz.w_cm, Dz.w_mkL, Dz.w_isC, Dz.w_fldL, Dz.w_stL, Dz.w_len, Dz.dInts_ints, Dz.ints_len, Dz.w_asgL, Dz.wipeE, Dz.setAll, List.map_cons, List.map_nil, List.length_cons, List.length_nil, List.replicate, List.cons_append, List.nil_append, List.append_nil, List.getElem?_cons_zero, List.getElem?_cons_succ, List.set_cons_zero, List.set_cons_succ, Nat.reduceAdd, Nat.reduceSub, Nat.zero_add, Nat.sub_zero, Bool.not_true, Bool.not_false, if_true, if_false, Bool.false_eq_true, reduceIte, decide_eq_true_eq, Option.map_some, Nat.reduceLeDiff, List.length_map, List.foldl_cons, List.foldl_nil])
  rw [if_neg (by decide), if_neg (by decide), if_neg (by decide)]
  cases a <;> exact z
theorem is_by_eq {c p q r : Pt} {w : Bool → Bool → Bool} {x : Str} (kc : 1 ≤ c.per) (kp : 1 ≤ p.per) (kq : 1 ≤ q.per) (hd : ∀ a b, f__law_due [.d (.str x), .d (.bl a), .d (.bl b)] = pur (.d (.bl (w a b)))) (h : ∀ n, 0 ≤ n → has c n = w (has p n) (has q n)) :
    f__law_is_by [.d (insL c), .d (.lst [prtD p, prtD q, prtD r]), .d (.str x)] = pur (.d (.bl true)) := fn_by fun S Q z => by
  unfold b__law_is_by
  (try simp (maxSteps := 4000000) (disch := first | omega | decide | assumption | (simp only [List.length_cons, List.length_nil, Nat.reduceAdd, Nat.reduceLeDiff]; done) | (simp only [List.length_cons, List.length_nil, List.length_map, Dz.ints_len]; omega)) only [Dz.wp_noE, Dz.noE_pur, Dz.w_var, Dz.w_c, Dz.w_op, Dz.w_ix, Dz.w_un, Dz.w_test, Dz.w_asB, Dz.w_not, Dz.w_and, Dz.w_or, Dz.w_if, Dz.w_sif, Dz.w_seq, Dz.after_nx, Dz.after_rt, Dz.w_next, Dz.w_ret, Dz.w_set, Dz.w_drop, Dz.w_put, Dz.w_nil, Dz.w_cons, Dz.w_cb, Dz.w_call, Dz.w_tup, Dz.w_lst, Dz.w_cell, Dz.w_for, Dz.w_of, Dz.w_rg, Dz.w_new, Dz.w_newC, Dz.w_lc, Dz.w_join, Dz.w_isS, Dz.w_chain, Dz.w_eand, Dz.w_eor, Dz.w_enot, Dz.w_ltS, Dz.w_leS, Dz.w_is, Dz.w_isnot, Dz.w_inS, Dz.w_rpr, Dz.w_itS, Dz.w_itL, Dz.w_itLs, Dz.w_itT, Dz.w_add, Dz.w_sub, Dz.w_neg, Dz.w_lt, Dz.w_le, Dz.w_gt, Dz.w_ge, Dz.w_int, Dz.w_intb, Dz.w_abs, Dz.w_max, Dz.w_min, Dz.w_lenL, Dz.w_lenT, Dz.w_lenR, Dz.wp_pur, Dz.startE, Dz.w_dtup, Dz.w_dlst, Dz.asDs_nil, Dz.asDs_cons, Dz.w_some, Dz.w_kTup, Dz.w_kLst, Dz.w_addL, Dz.w_addT, Dz.w_sl, Dz.w_oNone, Dz.w_oSome, Dz.w_asI, Dz.w_slL, Dz.w_slT, Dz.w_zp, Dz.w_itZL, Dz.w_itZT, Dz.w_rg3, Dz.w_par, Dz.w_asg, Dz.w_asD, Dz.w_fld, Dz.w_sfd, Dz.w_mk, Dz.w_pro, Dz.w_isI, Dz.w_met, Dz.w_ncb, Dz.w_tupL, Dz.w_tupT, Dz.w_listL, Dz.w_listT, Dz.w_sorted, Dz.w_minI, Dz.w_itA, Dz.w_itAt, Dz.w_itAs, Dz.w_itAz, Dz.w_inT, Dz.w_inL, Dz.w_niT, Dz.w_inD, Dz.w_eqS, Dz.w_neS, Dz.w_eqI, Dz.w_neI, Dz.w_eqB, Dz.w_neB, Dz.w_eqL, Dz.w_neL, Dz.w_eqT, Dz.w_neT, Dz.dunNe_str, Dz.dunNe_bl, Dz.dunNe_int, Dz.dunNe_lst, Dz.dunNe_tup, Dz.dunNe_non, Dz.dunEq_str, Dz.dunEq_bl, Dz.dunEq_int, Dz.dunEq_lst, Dz.dunEq_tup, Dz.dunEq_non, Dz.dunIn_ins, Dz.tBoolX_ins, Dz.w_notB, Dz.w_isB, Dz.wp_bnd, Dz.w_mod, Dz.w_div, Dz.w_itR, Dz.w_itR2, Dz.w_fldD, Dz.w_cm, Dz.w_mkL, Dz.w_isC, Dz.w_fldL, Dz.w_stL, Dz.w_len, Dz.dInts_ints, Dz.ints_len, Dz.w_asgL, Dz.wipeE, Dz.setAll, List.map_cons, List.map_nil, List.length_cons, List.length_nil, List.replicate, List.cons_append, List.nil_append, List.append_nil, List.getElem?_cons_zero, List.getElem?_cons_succ, List.set_cons_zero, List.set_cons_succ, Nat.reduceAdd, Nat.reduceSub, Nat.zero_add, Nat.sub_zero, Bool.not_true, Bool.not_false, if_true, if_false, Bool.false_eq_true, reduceIte, decide_eq_true_eq, Option.map_some, Nat.reduceLeDiff, List.length_map, List.foldl_cons, List.foldl_nil])
  refine forL_inv (I := fun ρ S' => (∃ y, ρ = [some (.d (insL c)), some (.d (.lst [prtD p, prtD q, prtD r])), some (.d (.str x)), y]) ∧ S' = S) _ _ S ⟨⟨_, rfl⟩, rfl⟩ (fun n hn ρ S' hI => ?_) fun ρ S' hI => ?_
  · obtain ⟨⟨y, rfl⟩, rfl⟩ := hI
    rw [mem_ints] at hn
    have e0 : ∀ (S : Sto) (Q : Vl → Sto → Prop), wp (gIx (.d (.lst [prtD p, prtD q, prtD r])) (.d (.int 0))) S Q ↔ Q (.d (prtD p)) S := fun S Q => w_ixL (i := 0) rfl
    have e1 : ∀ (S : Sto) (Q : Vl → Sto → Prop), wp (gIx (.d (.lst [prtD p, prtD q, prtD r])) (.d (.int 1))) S Q ↔ Q (.d (prtD q)) S := fun S Q => w_ixL (i := 1) rfl
    have hT : n < c_TOP := Int.lt_trans (show n < 180 by omega) (by decide)
    have h0 : 0 ≤ n := hn.1
    (try simp (maxSteps := 4000000) (disch := first | omega | decide | assumption | (simp only [List.length_cons, List.length_nil, Nat.reduceAdd, Nat.reduceLeDiff]; done) | (simp only [List.length_cons, List.length_nil, List.length_map, Dz.ints_len]; omega)) only [Dz.wp_noE, Dz.noE_pur, Dz.w_var, Dz.w_c, Dz.w_op, Dz.w_ix, Dz.w_un, Dz.w_test, Dz.w_asB, Dz.w_not, Dz.w_and, Dz.w_or, Dz.w_if, Dz.w_sif, Dz.w_seq, Dz.after_nx, Dz.after_rt, Dz.w_next, Dz.w_ret, Dz.w_set, Dz.w_drop, Dz.w_put, Dz.w_nil, Dz.w_cons, Dz.w_cb, Dz.w_call, Dz.w_tup, Dz.w_lst, Dz.w_cell, Dz.w_for, Dz.w_of, Dz.w_rg, Dz.w_new, Dz.w_newC, Dz.w_lc, Dz.w_join, Dz.w_isS, Dz.w_chain, Dz.w_eand, Dz.w_eor, Dz.w_enot, Dz.w_ltS, Dz.w_leS, Dz.w_is, Dz.w_isnot, Dz.w_inS, Dz.w_rpr, Dz.w_itS, Dz.w_itL, Dz.w_itLs, Dz.w_itT, Dz.w_add, Dz.w_sub, Dz.w_neg, Dz.w_lt, Dz.w_le, Dz.w_gt, Dz.w_ge, Dz.w_int, Dz.w_intb, Dz.w_abs, Dz.w_max, Dz.w_min, Dz.w_lenL, Dz.w_lenT, Dz.w_lenR, Dz.wp_pur, Dz.startE, Dz.w_dtup, Dz.w_dlst, Dz.asDs_nil, Dz.asDs_cons, Dz.w_some, Dz.w_kTup, Dz.w_kLst, Dz.w_addL, Dz.w_addT, Dz.w_sl, Dz.w_oNone, Dz.w_oSome, Dz.w_asI, Dz.w_slL, Dz.w_slT, Dz.w_zp, Dz.w_itZL, Dz.w_itZT, Dz.w_rg3, Dz.w_par, Dz.w_asg, Dz.w_asD, Dz.w_fld, Dz.w_sfd, Dz.w_mk, Dz.w_pro, Dz.w_isI, Dz.w_met, Dz.w_ncb, Dz.w_tupL, Dz.w_tupT, Dz.w_listL, Dz.w_listT, Dz.w_sorted, Dz.w_minI, Dz.w_itA, Dz.w_itAt, Dz.w_itAs, Dz.w_itAz, Dz.w_inT, Dz.w_inL, Dz.w_niT, Dz.w_inD, Dz.w_eqS, Dz.w_neS, Dz.w_eqI, Dz.w_neI, Dz.w_eqB, Dz.w_neB, Dz.w_eqL, Dz.w_neL, Dz.w_eqT, Dz.w_neT, Dz.dunNe_str, Dz.dunNe_bl, Dz.dunNe_int, Dz.dunNe_lst, Dz.dunNe_tup, Dz.dunNe_non, Dz.dunEq_str, Dz.dunEq_bl, Dz.dunEq_int, Dz.dunEq_lst, Dz.dunEq_tup, Dz.dunEq_non, Dz.dunIn_ins, Dz.tBoolX_ins, Dz.w_notB, Dz.w_isB, Dz.wp_bnd, Dz.w_mod, Dz.w_div, Dz.w_itR, Dz.w_itR2, Dz.w_fldD, Dz.w_cm, Dz.w_mkL, Dz.w_isC, Dz.w_fldL, Dz.w_stL, Dz.w_len, Dz.dInts_ints, Dz.ints_len, Dz.w_asgL, Dz.wipeE, Dz.setAll, List.map_cons, List.map_nil, List.length_cons, List.length_nil, List.replicate, List.cons_append, List.nil_append, List.append_nil, List.getElem?_cons_zero, List.getElem?_cons_succ, List.set_cons_zero, List.set_cons_succ, Nat.reduceAdd, Nat.reduceSub, Nat.zero_add, Nat.sub_zero, Bool.not_true, Bool.not_false, if_true, if_false, Bool.false_eq_true, reduceIte, decide_eq_true_eq, Option.map_some, Nat.reduceLeDiff, List.length_map, List.foldl_cons, List.foldl_nil, e0, e1, in_s, law_has_eq, hd, h n h0])
    rw [beq_self_eq_true, if_neg (by decide)]
    exact ⟨_, rfl, ⟨_, rfl⟩, trivial⟩
  · obtain ⟨⟨y, rfl⟩, rfl⟩ := hI
    (try simp (maxSteps := 4000000) (disch := first | omega | decide | assumption | (simp only [List.length_cons, List.length_nil, Nat.reduceAdd, Nat.reduceLeDiff]; done) | (simp only [List.length_cons, List.length_nil, List.length_map, Dz.ints_len]; omega)) only [Dz.wp_noE, Dz.noE_pur, Dz.w_var, Dz.w_c, Dz.w_op, Dz.w_ix, Dz.w_un, Dz.w_test, Dz.w_asB, Dz.w_not, Dz.w_and, Dz.w_or, Dz.w_if, Dz.w_sif, Dz.w_seq, Dz.after_nx, Dz.after_rt, Dz.w_next, Dz.w_ret, Dz.w_set, Dz.w_drop, Dz.w_put, Dz.w_nil, Dz.w_cons, Dz.w_cb, Dz.w_call, Dz.w_tup, Dz.w_lst, Dz.w_cell, Dz.w_for, Dz.w_of, Dz.w_rg, Dz.w_new, Dz.w_newC, Dz.w_lc, Dz.w_join, Dz.w_isS, Dz.w_chain, Dz.w_eand, Dz.w_eor, Dz.w_enot, Dz.w_ltS, Dz.w_leS, Dz.w_is, Dz.w_isnot, Dz.w_inS, Dz.w_rpr, Dz.w_itS, Dz.w_itL, Dz.w_itLs, Dz.w_itT, Dz.w_add, Dz.w_sub, Dz.w_neg, Dz.w_lt, Dz.w_le, Dz.w_gt, Dz.w_ge, Dz.w_int, Dz.w_intb, Dz.w_abs, Dz.w_max, Dz.w_min, Dz.w_lenL, Dz.w_lenT, Dz.w_lenR, Dz.wp_pur, Dz.startE, Dz.w_dtup, Dz.w_dlst, Dz.asDs_nil, Dz.asDs_cons, Dz.w_some, Dz.w_kTup, Dz.w_kLst, Dz.w_addL, Dz.w_addT, Dz.w_sl, Dz.w_oNone, Dz.w_oSome, Dz.w_asI, Dz.w_slL, Dz.w_slT, Dz.w_zp, Dz.w_itZL, Dz.w_itZT, Dz.w_rg3, Dz.w_par, Dz.w_asg, Dz.w_asD, Dz.w_fld, Dz.w_sfd, Dz.w_mk, Dz.w_pro, Dz.w_isI, Dz.w_met, Dz.w_ncb, Dz.w_tupL, Dz.w_tupT, Dz.w_listL, Dz.w_listT, Dz.w_sorted, Dz.w_minI, Dz.w_itA, Dz.w_itAt, Dz.w_itAs, Dz.w_itAz, Dz.w_inT, Dz.w_inL, Dz.w_niT, Dz.w_inD, Dz.w_eqS, Dz.w_neS, Dz.w_eqI, Dz.w_neI, Dz.w_eqB, Dz.w_neB, Dz.w_eqL, Dz.w_neL, Dz.w_eqT, Dz.w_neT, Dz.dunNe_str, Dz.dunNe_bl, Dz.dunNe_int, Dz.dunNe_lst, Dz.dunNe_tup, Dz.dunNe_non, Dz.dunEq_str, Dz.dunEq_bl, Dz.dunEq_int, Dz.dunEq_lst, Dz.dunEq_tup, Dz.dunEq_non, Dz.dunIn_ins, Dz.tBoolX_ins, Dz.w_notB, Dz.w_isB, Dz.wp_bnd, Dz.w_mod, Dz.w_div, Dz.w_itR, Dz.w_itR2, Dz.w_fldD, Dz.w_cm, Dz.w_mkL, Dz.w_isC, Dz.w_fldL, Dz.w_stL, Dz.w_len, Dz.dInts_ints, Dz.ints_len, Dz.w_asgL, Dz.wipeE, Dz.setAll, List.map_cons, List.map_nil, List.length_cons, List.length_nil, List.replicate, List.cons_append, List.nil_append, List.append_nil, List.getElem?_cons_zero, List.getElem?_cons_succ, List.set_cons_zero, List.set_cons_succ, Nat.reduceAdd, Nat.reduceSub, Nat.zero_add, Nat.sub_zero, Bool.not_true, Bool.not_false, if_true, if_false, Bool.false_eq_true, reduceIte, decide_eq_true_eq, Option.map_some, Nat.reduceLeDiff, List.length_map, List.foldl_cons, List.foldl_nil])
    exact z
end K03

namespace K03
open PySem PySem.Spec PyProof.Rows L2 Dz
open Lim
theorem right_wp {n : Nat} {S : Sto} (h : Die n S) : wp (f__law_right [.c n]) S fun x S' => x = .d (.bl true) ∧ Drw n S S' := by
  apply wp_fn
  unfold b__law_right
  ((try rw [Dz.after_nx]); (simp (maxSteps := 4000000) (disch := first | omega | decide | assumption | (simp only [List.length_cons, List.length_nil, Nat.reduceAdd, Nat.reduceLeDiff]; done) | (simp only [List.length_cons, List.length_nil, List.length_map, Dz.ints_len]; omega)) only [Dz.wp_noE, Dz.noE_pur, Dz.w_var, Dz.w_c, Dz.w_op, Dz.w_ix, Dz.w_un, Dz.w_test, Dz.w_asB, Dz.w_not, Dz.w_and, Dz.w_or, Dz.w_if, Dz.w_sif, Dz.w_seq, Dz.after_rt, Dz.w_next, Dz.w_ret, Dz.w_set, Dz.w_drop, Dz.w_put, Dz.w_nil, Dz.w_cons, Dz.w_cb, Dz.w_call, Dz.w_tup, Dz.w_lst, Dz.w_cell, Dz.w_for, Dz.w_of, Dz.w_rg, Dz.w_new, Dz.w_newC, Dz.w_lc, Dz.w_join, Dz.w_isS, Dz.w_chain, Dz.w_eand, Dz.w_eor, Dz.w_enot, Dz.w_ltS, Dz.w_leS, Dz.w_is, Dz.w_isnot, Dz.w_inS, Dz.w_rpr, Dz.w_itS, Dz.w_itL, Dz.w_itLs, Dz.w_itT, Dz.w_add, Dz.w_sub, Dz.w_neg, Dz.w_lt, Dz.w_le, Dz.w_gt, Dz.w_ge, Dz.w_int, Dz.w_intb, Dz.w_abs, Dz.w_max, Dz.w_min, Dz.w_lenL, Dz.w_lenT, Dz.w_lenR, Dz.wp_pur, Dz.startE, Dz.w_dtup, Dz.w_dlst, Dz.asDs_nil, Dz.asDs_cons, Dz.w_some, Dz.w_kTup, Dz.w_kLst, Dz.w_addL, Dz.w_addT, Dz.w_sl, Dz.w_oNone, Dz.w_oSome, Dz.w_asI, Dz.w_slL, Dz.w_slT, Dz.w_zp, Dz.w_itZL, Dz.w_itZT, Dz.w_rg3, Dz.w_par, Dz.w_asg, Dz.w_asD, Dz.w_fld, Dz.w_sfd, Dz.w_mk, Dz.w_pro, Dz.w_isI, Dz.w_met, Dz.w_ncb, Dz.w_tupL, Dz.w_tupT, Dz.w_listL, Dz.w_listT, Dz.w_sorted, Dz.w_minI, Dz.w_itA, Dz.w_itAt, Dz.w_itAs, Dz.w_itAz, Dz.w_inT, Dz.w_inL, Dz.w_niT, Dz.w_inD, Dz.w_eqS, Dz.w_neS, Dz.w_eqI, Dz.w_neI, Dz.w_eqB, Dz.w_neB, Dz.w_eqL, Dz.w_neL, Dz.w_eqT, Dz.w_neT, Dz.dunNe_str, Dz.dunNe_bl, Dz.dunNe_int, Dz.dunNe_lst, Dz.dunNe_tup, Dz.dunNe_non, Dz.dunEq_str, Dz.dunEq_bl, Dz.dunEq_int, Dz.dunEq_lst, Dz.dunEq_tup, Dz.dunEq_non, Dz.dunIn_ins, Dz.tBoolX_ins, Dz.w_notB, Dz.w_isB, Dz.wp_bnd, Dz.w_mod, Dz.w_div, Dz.w_itR, Dz.w_itR2, Dz.w_fldD, Dz.w_cm, Dz.w_mkL, Dz.w_isC, Dz.w_fldL, Dz.w_stL, Dz.w_len, Dz.dInts_ints, Dz.ints_len, Dz.w_asgL, Dz.wipeE, Dz.setAll, List.map_cons, List.map_nil, List.length_cons, List.length_nil, List.replicate, List.cons_append, List.nil_append, List.append_nil, List.getElem?_cons_zero, List.getElem?_cons_succ, List.set_cons_zero, List.set_cons_succ, Nat.reduceAdd, Nat.reduceSub, Nat.zero_add, Nat.sub_zero, Bool.not_true, Bool.not_false, if_true, if_false, Bool.false_eq_true, reduceIte, decide_eq_true_eq, Option.map_some, Nat.reduceLeDiff, List.length_map, List.foldl_cons, List.foldl_nil]))
  refine wp_mono (lcL_each (I := fun S' => Drw n S S') (B := fun y => ∃ p, y = prtD p ∧ Sm 9 p) (upto 0 (Int.toNat 3)) S (Drw.refl h) fun m hm S1 d1 => ?_) ?_
  · show wp (eCall f__law_drawn (aCons (eVar 0) aNil) [some (.c n), none, none, none, none, none, some (.d (.int m)), none, none]) S1 _
    ((try rw [Dz.after_nx]); (simp (maxSteps := 4000000) (disch := first | omega | decide | assumption | (simp only [List.length_cons, List.length_nil, Nat.reduceAdd, Nat.reduceLeDiff]; done) | (simp only [List.length_cons, List.length_nil, List.length_map, Dz.ints_len]; omega)) only [Dz.wp_noE, Dz.noE_pur, Dz.w_var, Dz.w_c, Dz.w_op, Dz.w_ix, Dz.w_un, Dz.w_test, Dz.w_asB, Dz.w_not, Dz.w_and, Dz.w_or, Dz.w_if, Dz.w_sif, Dz.w_seq, Dz.after_rt, Dz.w_next, Dz.w_ret, Dz.w_set, Dz.w_drop, Dz.w_put, Dz.w_nil, Dz.w_cons, Dz.w_cb, Dz.w_call, Dz.w_tup, Dz.w_lst, Dz.w_cell, Dz.w_for, Dz.w_of, Dz.w_rg, Dz.w_new, Dz.w_newC, Dz.w_lc, Dz.w_join, Dz.w_isS, Dz.w_chain, Dz.w_eand, Dz.w_eor, Dz.w_enot, Dz.w_ltS, Dz.w_leS, Dz.w_is, Dz.w_isnot, Dz.w_inS, Dz.w_rpr, Dz.w_itS, Dz.w_itL, Dz.w_itLs, Dz.w_itT, Dz.w_add, Dz.w_sub, Dz.w_neg, Dz.w_lt, Dz.w_le, Dz.w_gt, Dz.w_ge, Dz.w_int, Dz.w_intb, Dz.w_abs, Dz.w_max, Dz.w_min, Dz.w_lenL, Dz.w_lenT, Dz.w_lenR, Dz.wp_pur, Dz.startE, Dz.w_dtup, Dz.w_dlst, Dz.asDs_nil, Dz.asDs_cons, Dz.w_some, Dz.w_kTup, Dz.w_kLst, Dz.w_addL, Dz.w_addT, Dz.w_sl, Dz.w_oNone, Dz.w_oSome, Dz.w_asI, Dz.w_slL, Dz.w_slT, Dz.w_zp, Dz.w_itZL, Dz.w_itZT, Dz.w_rg3, Dz.w_par, Dz.w_asg, Dz.w_asD, Dz.w_fld, Dz.w_sfd, Dz.w_mk, Dz.w_pro, Dz.w_isI, Dz.w_met, Dz.w_ncb, Dz.w_tupL, Dz.w_tupT, Dz.w_listL, Dz.w_listT, Dz.w_sorted, Dz.w_minI, Dz.w_itA, Dz.w_itAt, Dz.w_itAs, Dz.w_itAz, Dz.w_inT, Dz.w_inL, Dz.w_niT, Dz.w_inD, Dz.w_eqS, Dz.w_neS, Dz.w_eqI, Dz.w_neI, Dz.w_eqB, Dz.w_neB, Dz.w_eqL, Dz.w_neL, Dz.w_eqT, Dz.w_neT, Dz.dunNe_str, Dz.dunNe_bl, Dz.dunNe_int, Dz.dunNe_lst, Dz.dunNe_tup, Dz.dunNe_non, Dz.dunEq_str, Dz.dunEq_bl, Dz.dunEq_int, Dz.dunEq_lst, Dz.dunEq_tup, Dz.dunEq_non, Dz.dunIn_ins, Dz.tBoolX_ins, Dz.w_notB, Dz.w_isB, Dz.wp_bnd, Dz.w_mod, Dz.w_div, Dz.w_itR, Dz.w_itR2, Dz.w_fldD, Dz.w_cm, Dz.w_mkL, Dz.w_isC, Dz.w_fldL, Dz.w_stL, Dz.w_len, Dz.dInts_ints, Dz.ints_len, Dz.w_asgL, Dz.wipeE, Dz.setAll, List.map_cons, List.map_nil, List.length_cons, List.length_nil, List.replicate, List.cons_append, List.nil_append, List.append_nil, List.getElem?_cons_zero, List.getElem?_cons_succ, List.set_cons_zero, List.set_cons_succ, Nat.reduceAdd, Nat.reduceSub, Nat.zero_add, Nat.sub_zero, Bool.not_true, Bool.not_false, if_true, if_false, Bool.false_eq_true, reduceIte, decide_eq_true_eq, Option.map_some, Nat.reduceLeDiff, List.length_map, List.foldl_cons, List.foldl_nil]))
    refine wp_mono (drawn_wp (d1.die h)) ?_
    rintro _ S2 ⟨p, rfl, sp, _, d2⟩
    exact ⟨_, rfl, ⟨p, rfl, sp.sm⟩, d1.trans d2⟩
  rintro ys S1 ⟨hl, hy, d1⟩
  obtain ⟨y1, y2, y3, rfl⟩ : ∃ a b c, ys = [a, b, c] := by
    rw [ints_len] at hl
    match ys, hl with
    | [a, b, c], _ => exact ⟨a, b, c, rfl⟩
  obtain ⟨p, rfl, sp⟩ := hy y1 (by simp)
  obtain ⟨q, rfl, sq⟩ := hy y2 (by simp)
  obtain ⟨r, rfl, sr⟩ := hy y3 (by simp)
  ((try rw [Dz.after_nx]); (simp (maxSteps := 4000000) (disch := first | omega | decide | assumption | (simp only [List.length_cons, List.length_nil, Nat.reduceAdd, Nat.reduceLeDiff]; done) | (simp only [List.length_cons, List.length_nil, List.length_map, Dz.ints_len]; omega)) only [Dz.wp_noE, Dz.noE_pur, Dz.w_var, Dz.w_c, Dz.w_op, Dz.w_ix, Dz.w_un, Dz.w_test, Dz.w_asB, Dz.w_not, Dz.w_and, Dz.w_or, Dz.w_if, Dz.w_sif, Dz.w_seq, Dz.after_rt, Dz.w_next, Dz.w_ret, Dz.w_set, Dz.w_drop, Dz.w_put, Dz.w_nil, Dz.w_cons, Dz.w_cb, Dz.w_call, Dz.w_tup, Dz.w_lst, Dz.w_cell, Dz.w_for, Dz.w_of, Dz.w_rg, Dz.w_new, Dz.w_newC, Dz.w_lc, Dz.w_join, Dz.w_isS, Dz.w_chain, Dz.w_eand, Dz.w_eor, Dz.w_enot, Dz.w_ltS, Dz.w_leS, Dz.w_is, Dz.w_isnot, Dz.w_inS, Dz.w_rpr, Dz.w_itS, Dz.w_itL, Dz.w_itLs, Dz.w_itT, Dz.w_add, Dz.w_sub, Dz.w_neg, Dz.w_lt, Dz.w_le, Dz.w_gt, Dz.w_ge, Dz.w_int, Dz.w_intb, Dz.w_abs, Dz.w_max, Dz.w_min, Dz.w_lenL, Dz.w_lenT, Dz.w_lenR, Dz.wp_pur, Dz.startE, Dz.w_dtup, Dz.w_dlst, Dz.asDs_nil, Dz.asDs_cons, Dz.w_some, Dz.w_kTup, Dz.w_kLst, Dz.w_addL, Dz.w_addT, Dz.w_sl, Dz.w_oNone, Dz.w_oSome, Dz.w_asI, Dz.w_slL, Dz.w_slT, Dz.w_zp, Dz.w_itZL, Dz.w_itZT, Dz.w_rg3, Dz.w_par, Dz.w_asg, Dz.w_asD, Dz.w_fld, Dz.w_sfd, Dz.w_mk, Dz.w_pro, Dz.w_isI, Dz.w_met, Dz.w_ncb, Dz.w_tupL, Dz.w_tupT, Dz.w_listL, Dz.w_listT, Dz.w_sorted, Dz.w_minI, Dz.w_itA, Dz.w_itAt, Dz.w_itAs, Dz.w_itAz, Dz.w_inT, Dz.w_inL, Dz.w_niT, Dz.w_inD, Dz.w_eqS, Dz.w_neS, Dz.w_eqI, Dz.w_neI, Dz.w_eqB, Dz.w_neB, Dz.w_eqL, Dz.w_neL, Dz.w_eqT, Dz.w_neT, Dz.dunNe_str, Dz.dunNe_bl, Dz.dunNe_int, Dz.dunNe_lst, Dz.dunNe_tup, Dz.dunNe_non, Dz.dunEq_str, Dz.dunEq_bl, Dz.dunEq_int, Dz.dunEq_lst, Dz.dunEq_tup, Dz.dunEq_non, Dz.dunIn_ins, Dz.tBoolX_ins, Dz.w_notB, Dz.w_isB, Dz.wp_bnd, Dz.w_mod, Dz.w_div, Dz.w_itR, Dz.w_itR2, Dz.w_fldD, Dz.w_cm, Dz.w_mkL, Dz.w_isC, Dz.w_fldL, Dz.w_stL, Dz.w_len, Dz.dInts_ints, Dz.ints_len, Dz.w_asgL, Dz.wipeE, Dz.setAll, List.map_cons, List.map_nil, List.length_cons, List.length_nil, List.replicate, List.cons_append, List.nil_append, List.append_nil, List.getElem?_cons_zero, List.getElem?_cons_succ, List.set_cons_zero, List.set_cons_succ, Nat.reduceAdd, Nat.reduceSub, Nat.zero_add, Nat.sub_zero, Bool.not_true, Bool.not_false, if_true, if_false, Bool.false_eq_true, reduceIte, decide_eq_true_eq, Option.map_some, Nat.reduceLeDiff, List.length_map, List.foldl_cons, List.foldl_nil]))
  have el : lcL (.one 7) bYes (eCall f__law_limits (aCons (eVar 7) aNil)) [some (.c n), some (.d (.lst [prtD p, prtD q, prtD r])), none, none, none, none, none, none, none] [prtD p, prtD q, prtD r] = pur [insL (canon p), insL (canon q), insL (canon r)] := lcL_map (t := .one 7) (p := bYes) (f := eCall f__law_limits (aCons (eVar 7) aNil)) (ρ := [some (.c n), some (.d (.lst [prtD p, prtD q, prtD r])), none, none, none, none, none, none, none]) (k := prtD) (b := fun _ => true) (ρ1 := fun a => [some (.c n), some (.d (.lst [prtD p, prtD q, prtD r])), none, none, none, none, none, some (.d (prtD a)), none]) (v := fun a => insL (canon a)) [p, q, r] fun a ha => ⟨rfl, rfl, fun _ => pur_wp fun S Q z => by
    have ka : Ok a := by
      simp only [List.mem_cons, List.not_mem_nil, or_false] at ha
      rcases ha with rfl | rfl | rfl
      · exact sp.ok
      · exact sq.ok
      · exact sr.ok
    ((try rw [Dz.after_nx]); (simp (maxSteps := 4000000) (disch := first | omega | decide | assumption | (simp only [List.length_cons, List.length_nil, Nat.reduceAdd, Nat.reduceLeDiff]; done) | (simp only [List.length_cons, List.length_nil, List.length_map, Dz.ints_len]; omega)) only [Dz.wp_noE, Dz.noE_pur, Dz.w_var, Dz.w_c, Dz.w_op, Dz.w_ix, Dz.w_un, Dz.w_test, Dz.w_asB, Dz.w_not, Dz.w_and, Dz.w_or, Dz.w_if, Dz.w_sif, Dz.w_seq, Dz.after_rt, Dz.w_next, Dz.w_ret, Dz.w_set, Dz.w_drop, Dz.w_put, Dz.w_nil, Dz.w_cons, Dz.w_cb, Dz.w_call, Dz.w_tup, Dz.w_lst, Dz.w_cell, Dz.w_for, Dz.w_of, Dz.w_rg, Dz.w_new, Dz.w_newC, Dz.w_lc, Dz.w_join, Dz.w_isS, Dz.w_chain, Dz.w_eand, Dz.w_eor, Dz.w_enot, Dz.w_ltS, Dz.w_leS, Dz.w_is, Dz.w_isnot, Dz.w_inS, Dz.w_rpr, Dz.w_itS, Dz.w_itL, Dz.w_itLs, Dz.w_itT, Dz.w_add, Dz.w_sub, Dz.w_neg, Dz.w_lt, Dz.w_le, Dz.w_gt, Dz.w_ge, Dz.w_int, Dz.w_intb, Dz.w_abs, Dz.w_max, Dz.w_min, Dz.w_lenL, Dz.w_lenT, Dz.w_lenR, Dz.wp_pur, Dz.startE, Dz.w_dtup, Dz.w_dlst, Dz.asDs_nil, Dz.asDs_cons, Dz.w_some, Dz.w_kTup, Dz.w_kLst, Dz.w_addL, Dz.w_addT, Dz.w_sl, Dz.w_oNone, Dz.w_oSome, Dz.w_asI, Dz.w_slL, Dz.w_slT, Dz.w_zp, Dz.w_itZL, Dz.w_itZT, Dz.w_rg3, Dz.w_par, Dz.w_asg, Dz.w_asD, Dz.w_fld, Dz.w_sfd, Dz.w_mk, Dz.w_pro, Dz.w_isI, Dz.w_met, Dz.w_ncb, Dz.w_tupL, Dz.w_tupT, Dz.w_listL, Dz.w_listT, Dz.w_sorted, Dz.w_minI, Dz.w_itA, Dz.w_itAt, Dz.w_itAs, Dz.w_itAz, Dz.w_inT, Dz.w_inL, Dz.w_niT, Dz.w_inD, Dz.w_eqS, Dz.w_neS, Dz.w_eqI, Dz.w_neI, Dz.w_eqB, Dz.w_neB, Dz.w_eqL, Dz.w_neL, Dz.w_eqT, Dz.w_neT, Dz.dunNe_str, Dz.dunNe_bl, Dz.dunNe_int, Dz.dunNe_lst, Dz.dunNe_tup, Dz.dunNe_non, Dz.dunEq_str, Dz.dunEq_bl, Dz.dunEq_int, Dz.dunEq_lst, Dz.dunEq_tup, Dz.dunEq_non, Dz.dunIn_ins, Dz.tBoolX_ins, Dz.w_notB, Dz.w_isB, Dz.wp_bnd, Dz.w_mod, Dz.w_div, Dz.w_itR, Dz.w_itR2, Dz.w_fldD, Dz.w_cm, Dz.w_mkL, Dz.w_isC, Dz.w_fldL, Dz.w_stL, Dz.w_len, Dz.dInts_ints, Dz.ints_len, Dz.w_asgL, Dz.wipeE, Dz.setAll, List.map_cons, List.map_nil, List.length_cons, List.length_nil, List.replicate, List.cons_append, List.nil_append, List.append_nil, List.getElem?_cons_zero, List.getElem?_cons_succ, List.set_cons_zero, List.set_cons_succ, Nat.reduceAdd, Nat.reduceSub, Nat.zero_add, Nat.sub_zero, Bool.not_true, Bool.not_false, if_true, if_false, Bool.false_eq_true, reduceIte, decide_eq_true_eq, Option.map_some, Nat.reduceLeDiff, List.length_map, List.foldl_cons, List.foldl_nil, law_limits_eq ka]))
    exact z⟩
  rw [el, wp_pur]
  ((try rw [Dz.after_nx]); (simp (maxSteps := 4000000) (disch := first | omega | decide | assumption | (simp only [List.length_cons, List.length_nil, Nat.reduceAdd, Nat.reduceLeDiff]; done) | (simp only [List.length_cons, List.length_nil, List.length_map, Dz.ints_len]; omega)) only [Dz.wp_noE, Dz.noE_pur, Dz.w_var, Dz.w_c, Dz.w_op, Dz.w_ix, Dz.w_un, Dz.w_test, Dz.w_asB, Dz.w_not, Dz.w_and, Dz.w_or, Dz.w_if, Dz.w_sif, Dz.w_seq, Dz.after_rt, Dz.w_next, Dz.w_ret, Dz.w_set, Dz.w_drop, Dz.w_put, Dz.w_nil, Dz.w_cons, Dz.w_cb, Dz.w_call, Dz.w_tup, Dz.w_lst, Dz.w_cell, Dz.w_for, Dz.w_of, Dz.w_rg, Dz.w_new, Dz.w_newC, Dz.w_lc, Dz.w_join, Dz.w_isS, Dz.w_chain, Dz.w_eand, Dz.w_eor, Dz.w_enot, Dz.w_ltS, Dz.w_leS, Dz.w_is, Dz.w_isnot, Dz.w_inS, Dz.w_rpr, Dz.w_itS, Dz.w_itL, Dz.w_itLs, Dz.w_itT, Dz.w_add, Dz.w_sub, Dz.w_neg, Dz.w_lt, Dz.w_le, Dz.w_gt, Dz.w_ge, Dz.w_int, Dz.w_intb, Dz.w_abs, Dz.w_max, Dz.w_min, Dz.w_lenL, Dz.w_lenT, Dz.w_lenR, Dz.wp_pur, Dz.startE, Dz.w_dtup, Dz.w_dlst, Dz.asDs_nil, Dz.asDs_cons, Dz.w_some, Dz.w_kTup, Dz.w_kLst, Dz.w_addL, Dz.w_addT, Dz.w_sl, Dz.w_oNone, Dz.w_oSome, Dz.w_asI, Dz.w_slL, Dz.w_slT, Dz.w_zp, Dz.w_itZL, Dz.w_itZT, Dz.w_rg3, Dz.w_par, Dz.w_asg, Dz.w_asD, Dz.w_fld, Dz.w_sfd, Dz.w_mk, Dz.w_pro, Dz.w_isI, Dz.w_met, Dz.w_ncb, Dz.w_tupL, Dz.w_tupT, Dz.w_listL, Dz.w_listT, Dz.w_sorted, Dz.w_minI, Dz.w_itA, Dz.w_itAt, Dz.w_itAs, Dz.w_itAz, Dz.w_inT, Dz.w_inL, Dz.w_niT, Dz.w_inD, Dz.w_eqS, Dz.w_neS, Dz.w_eqI, Dz.w_neI, Dz.w_eqB, Dz.w_neB, Dz.w_eqL, Dz.w_neL, Dz.w_eqT, Dz.w_neT, Dz.dunNe_str, Dz.dunNe_bl, Dz.dunNe_int, Dz.dunNe_lst, Dz.dunNe_tup, Dz.dunNe_non, Dz.dunEq_str, Dz.dunEq_bl, Dz.dunEq_int, Dz.dunEq_lst, Dz.dunEq_tup, Dz.dunEq_non, Dz.dunIn_ins, Dz.tBoolX_ins, Dz.w_notB, Dz.w_isB, Dz.wp_bnd, Dz.w_mod, Dz.w_div, Dz.w_itR, Dz.w_itR2, Dz.w_fldD, Dz.w_cm, Dz.w_mkL, Dz.w_isC, Dz.w_fldL, Dz.w_stL, Dz.w_len, Dz.dInts_ints, Dz.ints_len, Dz.w_asgL, Dz.wipeE, Dz.setAll, List.map_cons, List.map_nil, List.length_cons, List.length_nil, List.replicate, List.cons_append, List.nil_append, List.append_nil, List.getElem?_cons_zero, List.getElem?_cons_succ, List.set_cons_zero, List.set_cons_succ, Nat.reduceAdd, Nat.reduceSub, Nat.zero_add, Nat.sub_zero, Bool.not_true, Bool.not_false, if_true, if_false, Bool.false_eq_true, reduceIte, decide_eq_true_eq, Option.map_some, Nat.reduceLeDiff, List.length_map, List.foldl_cons, List.foldl_nil]))
  have hp : ∀ n, has (canon p) n = has p n := fun n => canon_has sp.ok n
  have hq : ∀ n, has (canon q) n = has q n := fun n => canon_has sq.ok n
  have sa : Sm 9 (canon p) := sp.canon
  have sb : Sm 9 (canon q) := sq.canon
  have sc : Sm 9 (canon r) := sr.canon
  have p0 := sp.ok.p0
  have q0 := sq.ok.p0
  generalize ha : canon p = A at *
  generalize hb : canon q = B at *
  generalize hc : canon r = C at *
  have b1 : f__law_is_by [.d (insL (canon (jn (fun a b => a && b) A B))), .d (.lst [prtD p, prtD q, prtD r]), .d (.str "and")] = pur (.d (.bl true)) := is_by_eq (sa.jn sb).canon.ok.p0 p0 q0 due_and fun n hn => by rw [canon_has (sa.jn sb).ok, jn_has sa.ok sb.ok hn, hp, hq]
  have b2 : f__law_is_by [.d (insL (canon (jn (fun a b => a || b) A B))), .d (.lst [prtD p, prtD q, prtD r]), .d (.str "or")] = pur (.d (.bl true)) := is_by_eq (sa.jn sb).canon.ok.p0 p0 q0 due_or fun n hn => by rw [canon_has (sa.jn sb).ok, jn_has sa.ok sb.ok hn, hp, hq]
  have b3 : f__law_is_by [.d (insL (canon (jn (fun a b => a && !b) A B))), .d (.lst [prtD p, prtD q, prtD r]), .d (.str "less")] = pur (.d (.bl true)) := is_by_eq (sa.jn sb).canon.ok.p0 p0 q0 due_less fun n hn => by rw [canon_has (sa.jn sb).ok, jn_has sa.ok sb.ok hn, hp, hq]
  have b4 : f__law_is_by [.d (insL (canon (jn (fun a b => a != b) A B))), .d (.lst [prtD p, prtD q, prtD r]), .d (.str "xor")] = pur (.d (.bl true)) := is_by_eq (sa.jn sb).canon.ok.p0 p0 q0 due_xor fun n hn => by rw [canon_has (sa.jn sb).ok, jn_has sa.ok sb.ok hn, hp, hq]
  ((try rw [Dz.after_nx]); (simp (maxSteps := 4000000) (disch := first | assumption | ((repeat' (first | assumption | apply Lim.Sm.canon | apply Lim.Sm.jn | apply Lim.Sm.inv)); done) | omega | decide | (simp only [List.length_cons, List.length_nil, Nat.reduceAdd, Nat.reduceLeDiff]; done) | (simp only [List.length_cons, List.length_nil, List.length_map, Dz.ints_len]; omega)) only [Dz.wp_noE, Dz.noE_pur, Dz.w_var, Dz.w_c, Dz.w_op, Dz.w_ix, Dz.w_un, Dz.w_test, Dz.w_asB, Dz.w_not, Dz.w_and, Dz.w_or, Dz.w_if, Dz.w_sif, Dz.w_seq, Dz.after_rt, Dz.w_next, Dz.w_ret, Dz.w_set, Dz.w_drop, Dz.w_put, Dz.w_nil, Dz.w_cons, Dz.w_cb, Dz.w_call, Dz.w_tup, Dz.w_lst, Dz.w_cell, Dz.w_for, Dz.w_of, Dz.w_rg, Dz.w_new, Dz.w_newC, Dz.w_lc, Dz.w_join, Dz.w_isS, Dz.w_chain, Dz.w_eand, Dz.w_eor, Dz.w_enot, Dz.w_ltS, Dz.w_leS, Dz.w_is, Dz.w_isnot, Dz.w_inS, Dz.w_rpr, Dz.w_itS, Dz.w_itL, Dz.w_itLs, Dz.w_itT, Dz.w_add, Dz.w_sub, Dz.w_neg, Dz.w_lt, Dz.w_le, Dz.w_gt, Dz.w_ge, Dz.w_int, Dz.w_intb, Dz.w_abs, Dz.w_max, Dz.w_min, Dz.w_lenL, Dz.w_lenT, Dz.w_lenR, Dz.wp_pur, Dz.startE, Dz.w_dtup, Dz.w_dlst, Dz.asDs_nil, Dz.asDs_cons, Dz.w_some, Dz.w_kTup, Dz.w_kLst, Dz.w_addL, Dz.w_addT, Dz.w_sl, Dz.w_oNone, Dz.w_oSome, Dz.w_asI, Dz.w_slL, Dz.w_slT, Dz.w_zp, Dz.w_itZL, Dz.w_itZT, Dz.w_rg3, Dz.w_par, Dz.w_asg, Dz.w_asD, Dz.w_fld, Dz.w_sfd, Dz.w_mk, Dz.w_pro, Dz.w_isI, Dz.w_met, Dz.w_ncb, Dz.w_tupL, Dz.w_tupT, Dz.w_listL, Dz.w_listT, Dz.w_sorted, Dz.w_minI, Dz.w_itA, Dz.w_itAt, Dz.w_itAs, Dz.w_itAz, Dz.w_inT, Dz.w_inL, Dz.w_niT, Dz.w_inD, Dz.w_eqS, Dz.w_neS, Dz.w_eqI, Dz.w_neI, Dz.w_eqB, Dz.w_neB, Dz.w_eqL, Dz.w_neL, Dz.w_eqT, Dz.w_neT, Dz.dunNe_str, Dz.dunNe_bl, Dz.dunNe_int, Dz.dunNe_lst, Dz.dunNe_tup, Dz.dunNe_non, Dz.dunEq_str, Dz.dunEq_bl, Dz.dunEq_int, Dz.dunEq_lst, Dz.dunEq_tup, Dz.dunEq_non, Dz.dunIn_ins, Dz.tBoolX_ins, Dz.w_notB, Dz.w_isB, Dz.wp_bnd, Dz.w_mod, Dz.w_div, Dz.w_itR, Dz.w_itR2, Dz.w_fldD, Dz.w_cm, Dz.w_mkL, Dz.w_isC, Dz.w_fldL, Dz.w_stL, Dz.w_len, Dz.dInts_ints, Dz.ints_len, Dz.w_asgL, Dz.wipeE, Dz.setAll, List.map_cons, List.map_nil, List.length_cons, List.length_nil, List.replicate, List.cons_append, List.nil_append, List.append_nil, List.getElem?_cons_zero, List.getElem?_cons_succ, List.set_cons_zero, List.set_cons_succ, Nat.reduceAdd, Nat.reduceSub, Nat.zero_add, Nat.sub_zero, Bool.not_true, Bool.not_false, if_true, if_false, Bool.false_eq_true, reduceIte, decide_eq_true_eq, Option.map_some, Nat.reduceLeDiff, List.length_map, List.foldl_cons, List.foldl_nil, and_s, or_s, b1, b2]))
  ((try rw [Dz.after_nx]); (simp (maxSteps := 4000000) (disch := first | assumption | ((repeat' (first | assumption | apply Lim.Sm.canon | apply Lim.Sm.jn | apply Lim.Sm.inv)); done) | omega | decide | (simp only [List.length_cons, List.length_nil, Nat.reduceAdd, Nat.reduceLeDiff]; done) | (simp only [List.length_cons, List.length_nil, List.length_map, Dz.ints_len]; omega)) only [Dz.wp_noE, Dz.noE_pur, Dz.w_var, Dz.w_c, Dz.w_op, Dz.w_ix, Dz.w_un, Dz.w_test, Dz.w_asB, Dz.w_not, Dz.w_and, Dz.w_or, Dz.w_if, Dz.w_sif, Dz.w_seq, Dz.after_rt, Dz.w_next, Dz.w_ret, Dz.w_set, Dz.w_drop, Dz.w_put, Dz.w_nil, Dz.w_cons, Dz.w_cb, Dz.w_call, Dz.w_tup, Dz.w_lst, Dz.w_cell, Dz.w_for, Dz.w_of, Dz.w_rg, Dz.w_new, Dz.w_newC, Dz.w_lc, Dz.w_join, Dz.w_isS, Dz.w_chain, Dz.w_eand, Dz.w_eor, Dz.w_enot, Dz.w_ltS, Dz.w_leS, Dz.w_is, Dz.w_isnot, Dz.w_inS, Dz.w_rpr, Dz.w_itS, Dz.w_itL, Dz.w_itLs, Dz.w_itT, Dz.w_add, Dz.w_sub, Dz.w_neg, Dz.w_lt, Dz.w_le, Dz.w_gt, Dz.w_ge, Dz.w_int, Dz.w_intb, Dz.w_abs, Dz.w_max, Dz.w_min, Dz.w_lenL, Dz.w_lenT, Dz.w_lenR, Dz.wp_pur, Dz.startE, Dz.w_dtup, Dz.w_dlst, Dz.asDs_nil, Dz.asDs_cons, Dz.w_some, Dz.w_kTup, Dz.w_kLst, Dz.w_addL, Dz.w_addT, Dz.w_sl, Dz.w_oNone, Dz.w_oSome, Dz.w_asI, Dz.w_slL, Dz.w_slT, Dz.w_zp, Dz.w_itZL, Dz.w_itZT, Dz.w_rg3, Dz.w_par, Dz.w_asg, Dz.w_asD, Dz.w_fld, Dz.w_sfd, Dz.w_mk, Dz.w_pro, Dz.w_isI, Dz.w_met, Dz.w_ncb, Dz.w_tupL, Dz.w_tupT, Dz.w_listL, Dz.w_listT, Dz.w_sorted, Dz.w_minI, Dz.w_itA, Dz.w_itAt, Dz.w_itAs, Dz.w_itAz, Dz.w_inT, Dz.w_inL, Dz.w_niT, Dz.w_inD, Dz.w_eqS, Dz.w_neS, Dz.w_eqI, Dz.w_neI, Dz.w_eqB, Dz.w_neB, Dz.w_eqL, Dz.w_neL, Dz.w_eqT, Dz.w_neT, Dz.dunNe_str, Dz.dunNe_bl, Dz.dunNe_int, Dz.dunNe_lst, Dz.dunNe_tup, Dz.dunNe_non, Dz.dunEq_str, Dz.dunEq_bl, Dz.dunEq_int, Dz.dunEq_lst, Dz.dunEq_tup, Dz.dunEq_non, Dz.dunIn_ins, Dz.tBoolX_ins, Dz.w_notB, Dz.w_isB, Dz.wp_bnd, Dz.w_mod, Dz.w_div, Dz.w_itR, Dz.w_itR2, Dz.w_fldD, Dz.w_cm, Dz.w_mkL, Dz.w_isC, Dz.w_fldL, Dz.w_stL, Dz.w_len, Dz.dInts_ints, Dz.ints_len, Dz.w_asgL, Dz.wipeE, Dz.setAll, List.map_cons, List.map_nil, List.length_cons, List.length_nil, List.replicate, List.cons_append, List.nil_append, List.append_nil, List.getElem?_cons_zero, List.getElem?_cons_succ, List.set_cons_zero, List.set_cons_succ, Nat.reduceAdd, Nat.reduceSub, Nat.zero_add, Nat.sub_zero, Bool.not_true, Bool.not_false, if_true, if_false, Bool.false_eq_true, reduceIte, decide_eq_true_eq, Option.map_some, Nat.reduceLeDiff, List.length_map, List.foldl_cons, List.foldl_nil, sub_s, xor_s, b3, b4]))
  have el2 : lcL (.one 8) (eTest (eOp (dunEq "Limits" tys_Limits f_Limits___eq__ cEqX) (eOp (dunIn "Limits" f_Limits___contains__ cIn2) (eVar 8) (eUn (dunUn "Limits" f_Limits___invert__) (eVar 3))) (eOp (dunIn "Limits" f_Limits___contains__ cIn2) (eVar 8) (eVar 3)))) (eVar 8) [some (.c n), some (.d (.lst [prtD p, prtD q, prtD r])), none, some (.d (insL A)), some (.d (insL B)), some (.d (insL C)), none, none, none] ((upto 0 (Int.toNat 180)).map D.int) = pur ([] : List D) := by
    rw [lcL_ints (b := fun _ => false) (v := D.int) _ fun x hx => ⟨pur_wp fun S Q z => by
      rw [mem_ints] at hx
      have hT : x < c_TOP := Int.lt_trans (show x < 180 by omega) (by decide)
      have hx0 := hx.1
      have i0 := sa.inv.canon.ok.p0
      have a0 := sa.ok.p0
      show wp (eTest _ [some (.c n), some (.d (.lst [prtD p, prtD q, prtD r])), none, some (.d (insL A)), some (.d (insL B)), some (.d (insL C)), none, none, some (.d (.int x))]) S Q
      (try simp (maxSteps := 4000000) (disch := first | assumption | ((repeat' (first | assumption | apply Lim.Sm.canon | apply Lim.Sm.jn | apply Lim.Sm.inv)); done) | omega | decide | (simp only [List.length_cons, List.length_nil, Nat.reduceAdd, Nat.reduceLeDiff]; done) | (simp only [List.length_cons, List.length_nil, List.length_map, Dz.ints_len]; omega)) only [Dz.wp_noE, Dz.noE_pur, Dz.w_var, Dz.w_c, Dz.w_op, Dz.w_ix, Dz.w_un, Dz.w_test, Dz.w_asB, Dz.w_not, Dz.w_and, Dz.w_or, Dz.w_if, Dz.w_sif, Dz.w_seq, Dz.after_nx, Dz.after_rt, Dz.w_next, Dz.w_ret, Dz.w_set, Dz.w_drop, Dz.w_put, Dz.w_nil, Dz.w_cons, Dz.w_cb, Dz.w_call, Dz.w_tup, Dz.w_lst, Dz.w_cell, Dz.w_for, Dz.w_of, Dz.w_rg, Dz.w_new, Dz.w_newC, Dz.w_lc, Dz.w_join, Dz.w_isS, Dz.w_chain, Dz.w_eand, Dz.w_eor, Dz.w_enot, Dz.w_ltS, Dz.w_leS, Dz.w_is, Dz.w_isnot, Dz.w_inS, Dz.w_rpr, Dz.w_itS, Dz.w_itL, Dz.w_itLs, Dz.w_itT, Dz.w_add, Dz.w_sub, Dz.w_neg, Dz.w_lt, Dz.w_le, Dz.w_gt, Dz.w_ge, Dz.w_int, Dz.w_intb, Dz.w_abs, Dz.w_max, Dz.w_min, Dz.w_lenL, Dz.w_lenT, Dz.w_lenR, Dz.wp_pur, Dz.startE, Dz.w_dtup, Dz.w_dlst, Dz.asDs_nil, Dz.asDs_cons, Dz.w_some, Dz.w_kTup, Dz.w_kLst, Dz.w_addL, Dz.w_addT, Dz.w_sl, Dz.w_oNone, Dz.w_oSome, Dz.w_asI, Dz.w_slL, Dz.w_slT, Dz.w_zp, Dz.w_itZL, Dz.w_itZT, Dz.w_rg3, Dz.w_par, Dz.w_asg, Dz.w_asD, Dz.w_fld, Dz.w_sfd, Dz.w_mk, Dz.w_pro, Dz.w_isI, Dz.w_met, Dz.w_ncb, Dz.w_tupL, Dz.w_tupT, Dz.w_listL, Dz.w_listT, Dz.w_sorted, Dz.w_minI, Dz.w_itA, Dz.w_itAt, Dz.w_itAs, Dz.w_itAz, Dz.w_inT, Dz.w_inL, Dz.w_niT, Dz.w_inD, Dz.w_eqS, Dz.w_neS, Dz.w_eqI, Dz.w_neI, Dz.w_eqB, Dz.w_neB, Dz.w_eqL, Dz.w_neL, Dz.w_eqT, Dz.w_neT, Dz.dunNe_str, Dz.dunNe_bl, Dz.dunNe_int, Dz.dunNe_lst, Dz.dunNe_tup, Dz.dunNe_non, Dz.dunEq_str, Dz.dunEq_bl, Dz.dunEq_int, Dz.dunEq_lst, Dz.dunEq_tup, Dz.dunEq_non, Dz.dunIn_ins, Dz.tBoolX_ins, Dz.w_notB, Dz.w_isB, Dz.wp_bnd, Dz.w_mod, Dz.w_div, Dz.w_itR, Dz.w_itR2, Dz.w_fldD, Dz.w_cm, Dz.w_mkL, Dz.w_isC, Dz.w_fldL, Dz.w_stL, Dz.w_len, Dz.dInts_ints, Dz.ints_len, Dz.w_asgL, Dz.wipeE, Dz.setAll, List.map_cons, List.map_nil, List.length_cons, List.length_nil, List.replicate, List.cons_append, List.nil_append, List.append_nil, List.getElem?_cons_zero, List.getElem?_cons_succ, List.set_cons_zero, List.set_cons_succ, Nat.reduceAdd, Nat.reduceSub, Nat.zero_add, Nat.sub_zero, Bool.not_true, Bool.not_false, if_true, if_false, Bool.false_eq_true, reduceIte, decide_eq_true_eq, Option.map_some, Nat.reduceLeDiff, List.length_map, List.foldl_cons, List.foldl_nil, inv_s, in_s, hs_c, hs_i])
      rw [show ((!has A x) == has A x) = false by cases has A x <;> rfl]
      exact z, fun h => by cases h⟩]
    rw [show (upto 0 (Int.toNat 180)).filter (fun _ => false) = [] from List.filter_eq_nil_iff.mpr (fun _ _ => by decide)]
    rfl
  ((try rw [Dz.after_nx]); (simp (maxSteps := 4000000) (disch := first | omega | decide | assumption | (simp only [List.length_cons, List.length_nil, Nat.reduceAdd, Nat.reduceLeDiff]; done) | (simp only [List.length_cons, List.length_nil, List.length_map, Dz.ints_len]; omega)) only [Dz.wp_noE, Dz.noE_pur, Dz.w_var, Dz.w_c, Dz.w_op, Dz.w_ix, Dz.w_un, Dz.w_test, Dz.w_asB, Dz.w_not, Dz.w_and, Dz.w_or, Dz.w_if, Dz.w_sif, Dz.w_seq, Dz.after_rt, Dz.w_next, Dz.w_ret, Dz.w_set, Dz.w_drop, Dz.w_put, Dz.w_nil, Dz.w_cons, Dz.w_cb, Dz.w_call, Dz.w_tup, Dz.w_lst, Dz.w_cell, Dz.w_for, Dz.w_of, Dz.w_rg, Dz.w_new, Dz.w_newC, Dz.w_lc, Dz.w_join, Dz.w_isS, Dz.w_chain, Dz.w_eand, Dz.w_eor, Dz.w_enot, Dz.w_ltS, Dz.w_leS, Dz.w_is, Dz.w_isnot, Dz.w_inS, Dz.w_rpr, Dz.w_itS, Dz.w_itL, Dz.w_itLs, Dz.w_itT, Dz.w_add, Dz.w_sub, Dz.w_neg, Dz.w_lt, Dz.w_le, Dz.w_gt, Dz.w_ge, Dz.w_int, Dz.w_intb, Dz.w_abs, Dz.w_max, Dz.w_min, Dz.w_lenL, Dz.w_lenT, Dz.w_lenR, Dz.wp_pur, Dz.startE, Dz.w_dtup, Dz.w_dlst, Dz.asDs_nil, Dz.asDs_cons, Dz.w_some, Dz.w_kTup, Dz.w_kLst, Dz.w_addL, Dz.w_addT, Dz.w_sl, Dz.w_oNone, Dz.w_oSome, Dz.w_asI, Dz.w_slL, Dz.w_slT, Dz.w_zp, Dz.w_itZL, Dz.w_itZT, Dz.w_rg3, Dz.w_par, Dz.w_asg, Dz.w_asD, Dz.w_fld, Dz.w_sfd, Dz.w_mk, Dz.w_pro, Dz.w_isI, Dz.w_met, Dz.w_ncb, Dz.w_tupL, Dz.w_tupT, Dz.w_listL, Dz.w_listT, Dz.w_sorted, Dz.w_minI, Dz.w_itA, Dz.w_itAt, Dz.w_itAs, Dz.w_itAz, Dz.w_inT, Dz.w_inL, Dz.w_niT, Dz.w_inD, Dz.w_eqS, Dz.w_neS, Dz.w_eqI, Dz.w_neI, Dz.w_eqB, Dz.w_neB, Dz.w_eqL, Dz.w_neL, Dz.w_eqT, Dz.w_neT, Dz.dunNe_str, Dz.dunNe_bl, Dz.dunNe_int, Dz.dunNe_lst, Dz.dunNe_tup, Dz.dunNe_non, Dz.dunEq_str, Dz.dunEq_bl, Dz.dunEq_int, Dz.dunEq_lst, Dz.dunEq_tup, Dz.dunEq_non, Dz.dunIn_ins, Dz.tBoolX_ins, Dz.w_notB, Dz.w_isB, Dz.wp_bnd, Dz.w_mod, Dz.w_div, Dz.w_itR, Dz.w_itR2, Dz.w_fldD, Dz.w_cm, Dz.w_mkL, Dz.w_isC, Dz.w_fldL, Dz.w_stL, Dz.w_len, Dz.dInts_ints, Dz.ints_len, Dz.w_asgL, Dz.wipeE, Dz.setAll, List.map_cons, List.map_nil, List.length_cons, List.length_nil, List.replicate, List.cons_append, List.nil_append, List.append_nil, List.getElem?_cons_zero, List.getElem?_cons_succ, List.set_cons_zero, List.set_cons_succ, Nat.reduceAdd, Nat.reduceSub, Nat.zero_add, Nat.sub_zero, Bool.not_true, Bool.not_false, if_true, if_false, Bool.false_eq_true, reduceIte, decide_eq_true_eq, Option.map_some, Nat.reduceLeDiff, List.length_map, List.foldl_cons, List.foldl_nil]))
  rw [el2, wp_pur]
  have cA : canon A = A := by rw [← ha]; exact canon_uniq (canon_ok sp.ok) sp.ok fun n _ => canon_has sp.ok n
  have cB : canon B = B := by rw [← hb]; exact canon_uniq (canon_ok sq.ok) sq.ok fun n _ => canon_has sq.ok n
  have e0 : ptEq (canon (inv (canon (inv A)))) A = true := by
    have := eq_by sa.inv.canon.inv sa fun n hn => by
      simp (disch := first | assumption | ((repeat' (first | assumption | apply Lim.Sm.canon | apply Lim.Sm.jn | apply Lim.Sm.inv)); done) | omega) only [hs_c, hs_i]
      cases has A n <;> rfl
    rwa [cA] at this
  ((try rw [Dz.after_nx]); (simp (maxSteps := 4000000) (disch := first | assumption | ((repeat' (first | assumption | apply Lim.Sm.canon | apply Lim.Sm.jn | apply Lim.Sm.inv)); done) | omega | decide | (simp only [List.length_cons, List.length_nil, Nat.reduceAdd, Nat.reduceLeDiff]; done) | (simp only [List.length_cons, List.length_nil, List.length_map, Dz.ints_len]; omega)) only [Dz.wp_noE, Dz.noE_pur, Dz.w_var, Dz.w_c, Dz.w_op, Dz.w_ix, Dz.w_un, Dz.w_test, Dz.w_asB, Dz.w_not, Dz.w_and, Dz.w_or, Dz.w_if, Dz.w_sif, Dz.w_seq, Dz.after_rt, Dz.w_next, Dz.w_ret, Dz.w_set, Dz.w_drop, Dz.w_put, Dz.w_nil, Dz.w_cons, Dz.w_cb, Dz.w_call, Dz.w_tup, Dz.w_lst, Dz.w_cell, Dz.w_for, Dz.w_of, Dz.w_rg, Dz.w_new, Dz.w_newC, Dz.w_lc, Dz.w_join, Dz.w_isS, Dz.w_chain, Dz.w_eand, Dz.w_eor, Dz.w_enot, Dz.w_ltS, Dz.w_leS, Dz.w_is, Dz.w_isnot, Dz.w_inS, Dz.w_rpr, Dz.w_itS, Dz.w_itL, Dz.w_itLs, Dz.w_itT, Dz.w_add, Dz.w_sub, Dz.w_neg, Dz.w_lt, Dz.w_le, Dz.w_gt, Dz.w_ge, Dz.w_int, Dz.w_intb, Dz.w_abs, Dz.w_max, Dz.w_min, Dz.w_lenL, Dz.w_lenT, Dz.w_lenR, Dz.wp_pur, Dz.startE, Dz.w_dtup, Dz.w_dlst, Dz.asDs_nil, Dz.asDs_cons, Dz.w_some, Dz.w_kTup, Dz.w_kLst, Dz.w_addL, Dz.w_addT, Dz.w_sl, Dz.w_oNone, Dz.w_oSome, Dz.w_asI, Dz.w_slL, Dz.w_slT, Dz.w_zp, Dz.w_itZL, Dz.w_itZT, Dz.w_rg3, Dz.w_par, Dz.w_asg, Dz.w_asD, Dz.w_fld, Dz.w_sfd, Dz.w_mk, Dz.w_pro, Dz.w_isI, Dz.w_met, Dz.w_ncb, Dz.w_tupL, Dz.w_tupT, Dz.w_listL, Dz.w_listT, Dz.w_sorted, Dz.w_minI, Dz.w_itA, Dz.w_itAt, Dz.w_itAs, Dz.w_itAz, Dz.w_inT, Dz.w_inL, Dz.w_niT, Dz.w_inD, Dz.w_eqS, Dz.w_neS, Dz.w_eqI, Dz.w_neI, Dz.w_eqB, Dz.w_neB, Dz.w_eqL, Dz.w_neL, Dz.w_eqT, Dz.w_neT, Dz.dunNe_str, Dz.dunNe_bl, Dz.dunNe_int, Dz.dunNe_lst, Dz.dunNe_tup, Dz.dunNe_non, Dz.dunEq_str, Dz.dunEq_bl, Dz.dunEq_int, Dz.dunEq_lst, Dz.dunEq_tup, Dz.dunEq_non, Dz.dunIn_ins, Dz.tBoolX_ins, Dz.w_notB, Dz.w_isB, Dz.wp_bnd, Dz.w_mod, Dz.w_div, Dz.w_itR, Dz.w_itR2, Dz.w_fldD, Dz.w_cm, Dz.w_mkL, Dz.w_isC, Dz.w_fldL, Dz.w_stL, Dz.w_len, Dz.dInts_ints, Dz.ints_len, Dz.w_asgL, Dz.wipeE, Dz.setAll, List.map_cons, List.map_nil, List.length_cons, List.length_nil, List.replicate, List.cons_append, List.nil_append, List.append_nil, List.getElem?_cons_zero, List.getElem?_cons_succ, List.set_cons_zero, List.set_cons_succ, Nat.reduceAdd, Nat.reduceSub, Nat.zero_add, Nat.sub_zero, Bool.not_true, Bool.not_false, if_true, if_false, Bool.false_eq_true, reduceIte, decide_eq_true_eq, Option.map_some, Nat.reduceLeDiff, List.length_map, List.foldl_cons, List.foldl_nil, ne_nil, inv_s, ne_s, e0]))
  have e1 : ptEq (canon (jn (fun a b => a && !b) A B)) (canon (jn (fun a b => a && b) A (canon (inv B)))) = true := eq_by (sa.jn sb) (sa.jn sb.inv.canon) fun n hn => by
    simp (disch := first | assumption | ((repeat' (first | assumption | apply Lim.Sm.canon | apply Lim.Sm.jn | apply Lim.Sm.inv)); done) | omega) only [hs_c, hs_i, hs_j]
  have e2 : ptEq (canon (jn (fun a b => a != b) A B)) (canon (jn (fun a b => a && !b) (canon (jn (fun a b => a || b) A B)) (canon (jn (fun a b => a && b) A B)))) = true := eq_by (sa.jn sb) ((sa.jn sb).canon.jn (sa.jn sb).canon) fun n hn => by
    simp (disch := first | assumption | ((repeat' (first | assumption | apply Lim.Sm.canon | apply Lim.Sm.jn | apply Lim.Sm.inv)); done) | omega) only [hs_c, hs_i, hs_j]
    cases has A n <;> cases has B n <;> rfl
  have e3 : ptEq (canon (inv (canon (jn (fun a b => a || b) A B)))) (canon (jn (fun a b => a && b) (canon (inv A)) (canon (inv B)))) = true := eq_by (sa.jn sb).canon.inv (sa.inv.canon.jn sb.inv.canon) fun n hn => by
    simp (disch := first | assumption | ((repeat' (first | assumption | apply Lim.Sm.canon | apply Lim.Sm.jn | apply Lim.Sm.inv)); done) | omega) only [hs_c, hs_i, hs_j]
    cases has A n <;> cases has B n <;> rfl
  ((try rw [Dz.after_nx]); (simp (maxSteps := 4000000) (disch := first | assumption | ((repeat' (first | assumption | apply Lim.Sm.canon | apply Lim.Sm.jn | apply Lim.Sm.inv)); done) | omega | decide | (simp only [List.length_cons, List.length_nil, Nat.reduceAdd, Nat.reduceLeDiff]; done) | (simp only [List.length_cons, List.length_nil, List.length_map, Dz.ints_len]; omega)) only [Dz.wp_noE, Dz.noE_pur, Dz.w_var, Dz.w_c, Dz.w_op, Dz.w_ix, Dz.w_un, Dz.w_test, Dz.w_asB, Dz.w_not, Dz.w_and, Dz.w_or, Dz.w_if, Dz.w_sif, Dz.w_seq, Dz.after_rt, Dz.w_next, Dz.w_ret, Dz.w_set, Dz.w_drop, Dz.w_put, Dz.w_nil, Dz.w_cons, Dz.w_cb, Dz.w_call, Dz.w_tup, Dz.w_lst, Dz.w_cell, Dz.w_for, Dz.w_of, Dz.w_rg, Dz.w_new, Dz.w_newC, Dz.w_lc, Dz.w_join, Dz.w_isS, Dz.w_chain, Dz.w_eand, Dz.w_eor, Dz.w_enot, Dz.w_ltS, Dz.w_leS, Dz.w_is, Dz.w_isnot, Dz.w_inS, Dz.w_rpr, Dz.w_itS, Dz.w_itL, Dz.w_itLs, Dz.w_itT, Dz.w_add, Dz.w_sub, Dz.w_neg, Dz.w_lt, Dz.w_le, Dz.w_gt, Dz.w_ge, Dz.w_int, Dz.w_intb, Dz.w_abs, Dz.w_max, Dz.w_min, Dz.w_lenL, Dz.w_lenT, Dz.w_lenR, Dz.wp_pur, Dz.startE, Dz.w_dtup, Dz.w_dlst, Dz.asDs_nil, Dz.asDs_cons, Dz.w_some, Dz.w_kTup, Dz.w_kLst, Dz.w_addL, Dz.w_addT, Dz.w_sl, Dz.w_oNone, Dz.w_oSome, Dz.w_asI, Dz.w_slL, Dz.w_slT, Dz.w_zp, Dz.w_itZL, Dz.w_itZT, Dz.w_rg3, Dz.w_par, Dz.w_asg, Dz.w_asD, Dz.w_fld, Dz.w_sfd, Dz.w_mk, Dz.w_pro, Dz.w_isI, Dz.w_met, Dz.w_ncb, Dz.w_tupL, Dz.w_tupT, Dz.w_listL, Dz.w_listT, Dz.w_sorted, Dz.w_minI, Dz.w_itA, Dz.w_itAt, Dz.w_itAs, Dz.w_itAz, Dz.w_inT, Dz.w_inL, Dz.w_niT, Dz.w_inD, Dz.w_eqS, Dz.w_neS, Dz.w_eqI, Dz.w_neI, Dz.w_eqB, Dz.w_neB, Dz.w_eqL, Dz.w_neL, Dz.w_eqT, Dz.w_neT, Dz.dunNe_str, Dz.dunNe_bl, Dz.dunNe_int, Dz.dunNe_lst, Dz.dunNe_tup, Dz.dunNe_non, Dz.dunEq_str, Dz.dunEq_bl, Dz.dunEq_int, Dz.dunEq_lst, Dz.dunEq_tup, Dz.dunEq_non, Dz.dunIn_ins, Dz.tBoolX_ins, Dz.w_notB, Dz.w_isB, Dz.wp_bnd, Dz.w_mod, Dz.w_div, Dz.w_itR, Dz.w_itR2, Dz.w_fldD, Dz.w_cm, Dz.w_mkL, Dz.w_isC, Dz.w_fldL, Dz.w_stL, Dz.w_len, Dz.dInts_ints, Dz.ints_len, Dz.w_asgL, Dz.wipeE, Dz.setAll, List.map_cons, List.map_nil, List.length_cons, List.length_nil, List.replicate, List.cons_append, List.nil_append, List.append_nil, List.getElem?_cons_zero, List.getElem?_cons_succ, List.set_cons_zero, List.set_cons_succ, Nat.reduceAdd, Nat.reduceSub, Nat.zero_add, Nat.sub_zero, Bool.not_true, Bool.not_false, if_true, if_false, Bool.false_eq_true, reduceIte, decide_eq_true_eq, Option.map_some, Nat.reduceLeDiff, List.length_map, List.foldl_cons, List.foldl_nil, inv_s, ne_s, and_s, or_s, sub_s, xor_s, e1, e2, e3]))
  have e4 : ptEq (canon (jn (fun a b => a && b) A (canon (jn (fun a b => a || b) B C)))) (canon (jn (fun a b => a || b) (canon (jn (fun a b => a && b) A B)) (canon (jn (fun a b => a && b) A C)))) = true := eq_by (sa.jn (sb.jn sc).canon) ((sa.jn sb).canon.jn (sa.jn sc).canon) fun n hn => by
    simp (disch := first | assumption | ((repeat' (first | assumption | apply Lim.Sm.canon | apply Lim.Sm.jn | apply Lim.Sm.inv)); done) | omega) only [hs_c, hs_i, hs_j]
    cases has A n <;> cases has B n <;> cases has C n <;> rfl
  have e5 : ptEq (canon (jn (fun a b => a != b) (canon (jn (fun a b => a != b) A B)) C)) (canon (jn (fun a b => a != b) A (canon (jn (fun a b => a != b) B C)))) = true := eq_by ((sa.jn sb).canon.jn sc) (sa.jn (sb.jn sc).canon) fun n hn => by
    simp (disch := first | assumption | ((repeat' (first | assumption | apply Lim.Sm.canon | apply Lim.Sm.jn | apply Lim.Sm.inv)); done) | omega) only [hs_c, hs_i, hs_j]
    cases has A n <;> cases has B n <;> cases has C n <;> rfl
  ((try rw [Dz.after_nx]); (simp (maxSteps := 4000000) (disch := first | assumption | ((repeat' (first | assumption | apply Lim.Sm.canon | apply Lim.Sm.jn | apply Lim.Sm.inv)); done) | omega | decide | (simp only [List.length_cons, List.length_nil, Nat.reduceAdd, Nat.reduceLeDiff]; done) | (simp only [List.length_cons, List.length_nil, List.length_map, Dz.ints_len]; omega)) only [Dz.wp_noE, Dz.noE_pur, Dz.w_var, Dz.w_c, Dz.w_op, Dz.w_ix, Dz.w_un, Dz.w_test, Dz.w_asB, Dz.w_not, Dz.w_and, Dz.w_or, Dz.w_if, Dz.w_sif, Dz.w_seq, Dz.after_rt, Dz.w_next, Dz.w_ret, Dz.w_set, Dz.w_drop, Dz.w_put, Dz.w_nil, Dz.w_cons, Dz.w_cb, Dz.w_call, Dz.w_tup, Dz.w_lst, Dz.w_cell, Dz.w_for, Dz.w_of, Dz.w_rg, Dz.w_new, Dz.w_newC, Dz.w_lc, Dz.w_join, Dz.w_isS, Dz.w_chain, Dz.w_eand, Dz.w_eor, Dz.w_enot, Dz.w_ltS, Dz.w_leS, Dz.w_is, Dz.w_isnot, Dz.w_inS, Dz.w_rpr, Dz.w_itS, Dz.w_itL, Dz.w_itLs, Dz.w_itT, Dz.w_add, Dz.w_sub, Dz.w_neg, Dz.w_lt, Dz.w_le, Dz.w_gt, Dz.w_ge, Dz.w_int, Dz.w_intb, Dz.w_abs, Dz.w_max, Dz.w_min, Dz.w_lenL, Dz.w_lenT, Dz.w_lenR, Dz.wp_pur, Dz.startE, Dz.w_dtup, Dz.w_dlst, Dz.asDs_nil, Dz.asDs_cons, Dz.w_some, Dz.w_kTup, Dz.w_kLst, Dz.w_addL, Dz.w_addT, Dz.w_sl, Dz.w_oNone, Dz.w_oSome, Dz.w_asI, Dz.w_slL, Dz.w_slT, Dz.w_zp, Dz.w_itZL, Dz.w_itZT, Dz.w_rg3, Dz.w_par, Dz.w_asg, Dz.w_asD, Dz.w_fld, Dz.w_sfd, Dz.w_mk, Dz.w_pro, Dz.w_isI, Dz.w_met, Dz.w_ncb, Dz.w_tupL, Dz.w_tupT, Dz.w_listL, Dz.w_listT, Dz.w_sorted, Dz.w_minI, Dz.w_itA, Dz.w_itAt, Dz.w_itAs, Dz.w_itAz, Dz.w_inT, Dz.w_inL, Dz.w_niT, Dz.w_inD, Dz.w_eqS, Dz.w_neS, Dz.w_eqI, Dz.w_neI, Dz.w_eqB, Dz.w_neB, Dz.w_eqL, Dz.w_neL, Dz.w_eqT, Dz.w_neT, Dz.dunNe_str, Dz.dunNe_bl, Dz.dunNe_int, Dz.dunNe_lst, Dz.dunNe_tup, Dz.dunNe_non, Dz.dunEq_str, Dz.dunEq_bl, Dz.dunEq_int, Dz.dunEq_lst, Dz.dunEq_tup, Dz.dunEq_non, Dz.dunIn_ins, Dz.tBoolX_ins, Dz.w_notB, Dz.w_isB, Dz.wp_bnd, Dz.w_mod, Dz.w_div, Dz.w_itR, Dz.w_itR2, Dz.w_fldD, Dz.w_cm, Dz.w_mkL, Dz.w_isC, Dz.w_fldL, Dz.w_stL, Dz.w_len, Dz.dInts_ints, Dz.ints_len, Dz.w_asgL, Dz.wipeE, Dz.setAll, List.map_cons, List.map_nil, List.length_cons, List.length_nil, List.replicate, List.cons_append, List.nil_append, List.append_nil, List.getElem?_cons_zero, List.getElem?_cons_succ, List.set_cons_zero, List.set_cons_succ, Nat.reduceAdd, Nat.reduceSub, Nat.zero_add, Nat.sub_zero, Bool.not_true, Bool.not_false, if_true, if_false, Bool.false_eq_true, reduceIte, decide_eq_true_eq, Option.map_some, Nat.reduceLeDiff, List.length_map, List.foldl_cons, List.foldl_nil, inv_s, ne_s, and_s, or_s, sub_s, xor_s, e4, e5]))
  ((try rw [Dz.after_nx]); (simp (maxSteps := 4000000) (disch := first | assumption | ((repeat' (first | assumption | apply Lim.Sm.canon | apply Lim.Sm.jn | apply Lim.Sm.inv)); done) | omega | decide | (simp only [List.length_cons, List.length_nil, Nat.reduceAdd, Nat.reduceLeDiff]; done) | (simp only [List.length_cons, List.length_nil, List.length_map, Dz.ints_len]; omega)) only [Dz.wp_noE, Dz.noE_pur, Dz.w_var, Dz.w_c, Dz.w_op, Dz.w_ix, Dz.w_un, Dz.w_test, Dz.w_asB, Dz.w_not, Dz.w_and, Dz.w_or, Dz.w_if, Dz.w_sif, Dz.w_seq, Dz.after_rt, Dz.w_next, Dz.w_ret, Dz.w_set, Dz.w_drop, Dz.w_put, Dz.w_nil, Dz.w_cons, Dz.w_cb, Dz.w_call, Dz.w_tup, Dz.w_lst, Dz.w_cell, Dz.w_for, Dz.w_of, Dz.w_rg, Dz.w_new, Dz.w_newC, Dz.w_lc, Dz.w_join, Dz.w_isS, Dz.w_chain, Dz.w_eand, Dz.w_eor, Dz.w_enot, Dz.w_ltS, Dz.w_leS, Dz.w_is, Dz.w_isnot, Dz.w_inS, Dz.w_rpr, Dz.w_itS, Dz.w_itL, Dz.w_itLs, Dz.w_itT, Dz.w_add, Dz.w_sub, Dz.w_neg, Dz.w_lt, Dz.w_le, Dz.w_gt, Dz.w_ge, Dz.w_int, Dz.w_intb, Dz.w_abs, Dz.w_max, Dz.w_min, Dz.w_lenL, Dz.w_lenT, Dz.w_lenR, Dz.wp_pur, Dz.startE, Dz.w_dtup, Dz.w_dlst, Dz.asDs_nil, Dz.asDs_cons, Dz.w_some, Dz.w_kTup, Dz.w_kLst, Dz.w_addL, Dz.w_addT, Dz.w_sl, Dz.w_oNone, Dz.w_oSome, Dz.w_asI, Dz.w_slL, Dz.w_slT, Dz.w_zp, Dz.w_itZL, Dz.w_itZT, Dz.w_rg3, Dz.w_par, Dz.w_asg, Dz.w_asD, Dz.w_fld, Dz.w_sfd, Dz.w_mk, Dz.w_pro, Dz.w_isI, Dz.w_met, Dz.w_ncb, Dz.w_tupL, Dz.w_tupT, Dz.w_listL, Dz.w_listT, Dz.w_sorted, Dz.w_minI, Dz.w_itA, Dz.w_itAt, Dz.w_itAs, Dz.w_itAz, Dz.w_inT, Dz.w_inL, Dz.w_niT, Dz.w_inD, Dz.w_eqS, Dz.w_neS, Dz.w_eqI, Dz.w_neI, Dz.w_eqB, Dz.w_neB, Dz.w_eqL, Dz.w_neL, Dz.w_eqT, Dz.w_neT, Dz.dunNe_str, Dz.dunNe_bl, Dz.dunNe_int, Dz.dunNe_lst, Dz.dunNe_tup, Dz.dunNe_non, Dz.dunEq_str, Dz.dunEq_bl, Dz.dunEq_int, Dz.dunEq_lst, Dz.dunEq_tup, Dz.dunEq_non, Dz.dunIn_ins, Dz.tBoolX_ins, Dz.w_notB, Dz.w_isB, Dz.wp_bnd, Dz.w_mod, Dz.w_div, Dz.w_itR, Dz.w_itR2, Dz.w_fldD, Dz.w_cm, Dz.w_mkL, Dz.w_isC, Dz.w_fldL, Dz.w_stL, Dz.w_len, Dz.dInts_ints, Dz.ints_len, Dz.w_asgL, Dz.wipeE, Dz.setAll, List.map_cons, List.map_nil, List.length_cons, List.length_nil, List.replicate, List.cons_append, List.nil_append, List.append_nil, List.getElem?_cons_zero, List.getElem?_cons_succ, List.set_cons_zero, List.set_cons_succ, Nat.reduceAdd, Nat.reduceSub, Nat.zero_add, Nat.sub_zero, Bool.not_true, Bool.not_false, if_true, if_false, Bool.false_eq_true, reduceIte, decide_eq_true_eq, Option.map_some, Nat.reduceLeDiff, List.length_map, List.foldl_cons, List.foldl_nil]))
  have x0 : ∀ (S : Sto) (Q : Vl → Sto → Prop), wp (gIx (.d (.lst [prtD p, prtD q, prtD r])) (.d (.int 0))) S Q ↔ Q (.d (prtD p)) S := fun S Q => w_ixL (i := 0) rfl
  have x1 : ∀ (S : Sto) (Q : Vl → Sto → Prop), wp (gIx (.d (.lst [prtD p, prtD q, prtD r])) (.d (.int 1))) S Q ↔ Q (.d (prtD q)) S := fun S Q => w_ixL (i := 1) rfl
  rw [lcL_ints (b := fun x => has A x && !has B x) (v := D.int) _ fun x hx => ⟨pur_wp fun S Q z => by
    rw [mem_ints] at hx
    show wp (bAnd _ _ [some (.c n), some (.d (.lst [prtD p, prtD q, prtD r])), none, some (.d (insL A)), some (.d (insL B)), some (.d (insL C)), none, none, some (.d (.int x))]) S Q
    ((try rw [Dz.after_nx]); (simp (maxSteps := 4000000) (disch := first | omega | decide | assumption | (simp only [List.length_cons, List.length_nil, Nat.reduceAdd, Nat.reduceLeDiff]; done) | (simp only [List.length_cons, List.length_nil, List.length_map, Dz.ints_len]; omega)) only [Dz.wp_noE, Dz.noE_pur, Dz.w_var, Dz.w_c, Dz.w_op, Dz.w_ix, Dz.w_un, Dz.w_test, Dz.w_asB, Dz.w_not, Dz.w_and, Dz.w_or, Dz.w_if, Dz.w_sif, Dz.w_seq, Dz.after_rt, Dz.w_next, Dz.w_ret, Dz.w_set, Dz.w_drop, Dz.w_put, Dz.w_nil, Dz.w_cons, Dz.w_cb, Dz.w_call, Dz.w_tup, Dz.w_lst, Dz.w_cell, Dz.w_for, Dz.w_of, Dz.w_rg, Dz.w_new, Dz.w_newC, Dz.w_lc, Dz.w_join, Dz.w_isS, Dz.w_chain, Dz.w_eand, Dz.w_eor, Dz.w_enot, Dz.w_ltS, Dz.w_leS, Dz.w_is, Dz.w_isnot, Dz.w_inS, Dz.w_rpr, Dz.w_itS, Dz.w_itL, Dz.w_itLs, Dz.w_itT, Dz.w_add, Dz.w_sub, Dz.w_neg, Dz.w_lt, Dz.w_le, Dz.w_gt, Dz.w_ge, Dz.w_int, Dz.w_intb, Dz.w_abs, Dz.w_max, Dz.w_min, Dz.w_lenL, Dz.w_lenT, Dz.w_lenR, Dz.wp_pur, Dz.startE, Dz.w_dtup, Dz.w_dlst, Dz.asDs_nil, Dz.asDs_cons, Dz.w_some, Dz.w_kTup, Dz.w_kLst, Dz.w_addL, Dz.w_addT, Dz.w_sl, Dz.w_oNone, Dz.w_oSome, Dz.w_asI, Dz.w_slL, Dz.w_slT, Dz.w_zp, Dz.w_itZL, Dz.w_itZT, Dz.w_rg3, Dz.w_par, Dz.w_asg, Dz.w_asD, Dz.w_fld, Dz.w_sfd, Dz.w_mk, Dz.w_pro, Dz.w_isI, Dz.w_met, Dz.w_ncb, Dz.w_tupL, Dz.w_tupT, Dz.w_listL, Dz.w_listT, Dz.w_sorted, Dz.w_minI, Dz.w_itA, Dz.w_itAt, Dz.w_itAs, Dz.w_itAz, Dz.w_inT, Dz.w_inL, Dz.w_niT, Dz.w_inD, Dz.w_eqS, Dz.w_neS, Dz.w_eqI, Dz.w_neI, Dz.w_eqB, Dz.w_neB, Dz.w_eqL, Dz.w_neL, Dz.w_eqT, Dz.w_neT, Dz.dunNe_str, Dz.dunNe_bl, Dz.dunNe_int, Dz.dunNe_lst, Dz.dunNe_tup, Dz.dunNe_non, Dz.dunEq_str, Dz.dunEq_bl, Dz.dunEq_int, Dz.dunEq_lst, Dz.dunEq_tup, Dz.dunEq_non, Dz.dunIn_ins, Dz.tBoolX_ins, Dz.w_notB, Dz.w_isB, Dz.wp_bnd, Dz.w_mod, Dz.w_div, Dz.w_itR, Dz.w_itR2, Dz.w_fldD, Dz.w_cm, Dz.w_mkL, Dz.w_isC, Dz.w_fldL, Dz.w_stL, Dz.w_len, Dz.dInts_ints, Dz.ints_len, Dz.w_asgL, Dz.wipeE, Dz.setAll, List.map_cons, List.map_nil, List.length_cons, List.length_nil, List.replicate, List.cons_append, List.nil_append, List.append_nil, List.getElem?_cons_zero, List.getElem?_cons_succ, List.set_cons_zero, List.set_cons_succ, Nat.reduceAdd, Nat.reduceSub, Nat.zero_add, Nat.sub_zero, Bool.not_true, Bool.not_false, if_true, if_false, Bool.false_eq_true, reduceIte, decide_eq_true_eq, Option.map_some, Nat.reduceLeDiff, List.length_map, List.foldl_cons, List.foldl_nil, x0, x1, law_has_eq p0, law_has_eq q0]))
    rw [hp, hq] at z
    cases hz : has p x
    · rw [hz] at z; exact z
    · rw [hz] at z; exact z, fun h => rfl⟩, wp_pur]
  have w1 : decide (((upto 0 (Int.toNat 180)).filter fun x => has A x && !has B x) = []) = !decide (0 < (canon (jn (fun a b => a && !b) A B)).few.length + (canon (jn (fun a b => a && !b) A B)).rst.length) := by
    rw [Bool.eq_iff_iff, Bool.not_eq_true', ← Bool.not_eq_true, some_s (sa.jn sb), decide_eq_true_eq, List.filter_eq_nil_iff]
    constructor
    · rintro h ⟨n, h0, h1⟩
      have h2 := Sm.near (P := fun b => b = false) (sa.jn (w := fun a b => a && !b) sb) (by decide) (N := 180) (by decide) (fun n h0 h1 => by
        rw [hs_j sa sb h0]
        have := h n (mem_ints.mpr ⟨h0, by omega⟩)
        simpa using this) h0
      rw [h2] at h1
      cases h1
    · intro h n hn hx
      rw [mem_ints] at hn
      exact h ⟨n, hn.1, by rw [hs_j sa sb hn.1]; exact hx⟩
  have w2 : ptEq (canon (jn (fun a b => a || b) A B)) B = !decide (0 < (canon (jn (fun a b => a && !b) A B)).few.length + (canon (jn (fun a b => a && !b) A B)).rst.length) := by
    rw [Bool.eq_iff_iff, Bool.not_eq_true', ← Bool.not_eq_true, some_s (sa.jn sb), ptEq_iff]
    constructor
    · rintro h ⟨n, h0, h1⟩
      have h2 : has (canon (jn (fun a b => a || b) A B)) n = has B n := by rw [h]
      simp (disch := first | assumption | ((repeat' (first | assumption | apply Lim.Sm.canon | apply Lim.Sm.jn | apply Lim.Sm.inv)); done) | omega) only [hs_c, hs_j] at h2
      rw [hs_j sa sb h0] at h1
      revert h1 h2
      cases has A n <;> cases has B n <;> decide
    · intro h
      have := canon_uniq (sa.jn (w := fun a b => a || b) sb).ok sb.ok fun n hn => by
        rw [hs_j sa sb hn]
        have h1 : ¬ (has A n && !has B n) = true := fun z => h ⟨n, hn, by rw [hs_j sa sb hn]; exact z⟩
        revert h1
        cases has A n <;> cases has B n <;> decide
      rwa [cB] at this
  have w3 : f_Limits_is_within [.d (insL (canon (jn (fun a b => a && b) A B))), .d (insL A)] = pur (.d (.bl true)) := by
    rw [within_s (sa.jn sb).canon sa]
    congr 3
    rw [Bool.not_eq_true', ← Bool.not_eq_true, some_s ((sa.jn sb).canon.jn sa)]
    rintro ⟨n, h0, h1⟩
    simp (disch := first | assumption | ((repeat' (first | assumption | apply Lim.Sm.canon | apply Lim.Sm.jn | apply Lim.Sm.inv)); done) | omega) only [hs_c, hs_j] at h1
    revert h1
    cases has A n <;> cases has B n <;> decide
  have sE : Sm 9 ⟨[], 0, 1, [0]⟩ := ⟨okB_ok (by decide +kernel), by decide, by decide⟩
  have sN : Sm 9 ⟨[], 0, 1, []⟩ := ⟨okB_ok (by decide +kernel), by decide, by decide⟩
  have w4 : f_Limits_is_within [.d (insL A), .d (insL ⟨[], 0, 1, [0]⟩)] = pur (.d (.bl true)) := by
    rw [within_s sa sE]
    congr 3
    rw [Bool.not_eq_true', ← Bool.not_eq_true, some_s (sa.jn sE)]
    rintro ⟨n, h0, h1⟩
    rw [hs_j sa sE h0] at h1
    have : has ⟨[], 0, 1, [0]⟩ n = true := by
      unfold has
      rw [if_neg (show ¬ n < (0 : Int) by omega)]
      show decide (n % 1 ∈ [(0 : Int)]) = true
      rw [show n % 1 = 0 by omega]
      rfl
    rw [this] at h1
    revert h1
    cases has A n <;> decide
  have w5 : f_Limits_is_within [.d (insL ⟨[], 0, 1, []⟩), .d (insL A)] = pur (.d (.bl true)) := by
    rw [within_s sN sa]
    congr 3
    rw [Bool.not_eq_true', ← Bool.not_eq_true, some_s (sN.jn sa)]
    rintro ⟨n, h0, h1⟩
    rw [hs_j sN sa h0] at h1
    have : has ⟨[], 0, 1, []⟩ n = false := by
      unfold has
      rw [if_neg (show ¬ n < (0 : Int) by omega)]
      rfl
    rw [this] at h1
    cases h1
  have im : ∀ (X : Pt) (S : Sto) (Q : Unit → Sto → Prop), wp (isM "Limits" "is_within" (.d (insL X))) S Q ↔ Q () S := fun X S Q => isM_s rfl
  have eN : ∀ (l : List Int) (S : Sto) (Q : Vl → Sto → Prop), wp (cEqX (.d (.lst (l.map D.int))) (.d (.lst []))) S Q ↔ Q (.d (.bl (decide (l = [])))) S := fun l S Q => w_eqL (ms := [])
  have w0 := within_s sa sb
  ((try rw [Dz.after_nx]); (simp (maxSteps := 4000000) (disch := first | assumption | ((repeat' (first | assumption | apply Lim.Sm.canon | apply Lim.Sm.jn | apply Lim.Sm.inv)); done) | omega | decide | (simp only [List.length_cons, List.length_nil, Nat.reduceAdd, Nat.reduceLeDiff]; done) | (simp only [List.length_cons, List.length_nil, List.length_map, Dz.ints_len]; omega)) only [Dz.wp_noE, Dz.noE_pur, Dz.w_var, Dz.w_c, Dz.w_op, Dz.w_ix, Dz.w_un, Dz.w_test, Dz.w_asB, Dz.w_not, Dz.w_and, Dz.w_or, Dz.w_if, Dz.w_sif, Dz.w_seq, Dz.after_rt, Dz.w_next, Dz.w_ret, Dz.w_set, Dz.w_drop, Dz.w_put, Dz.w_nil, Dz.w_cons, Dz.w_cb, Dz.w_call, Dz.w_tup, Dz.w_lst, Dz.w_cell, Dz.w_for, Dz.w_of, Dz.w_rg, Dz.w_new, Dz.w_newC, Dz.w_lc, Dz.w_join, Dz.w_isS, Dz.w_chain, Dz.w_eand, Dz.w_eor, Dz.w_enot, Dz.w_ltS, Dz.w_leS, Dz.w_is, Dz.w_isnot, Dz.w_inS, Dz.w_rpr, Dz.w_itS, Dz.w_itL, Dz.w_itLs, Dz.w_itT, Dz.w_add, Dz.w_sub, Dz.w_neg, Dz.w_lt, Dz.w_le, Dz.w_gt, Dz.w_ge, Dz.w_int, Dz.w_intb, Dz.w_abs, Dz.w_max, Dz.w_min, Dz.w_lenL, Dz.w_lenT, Dz.w_lenR, Dz.wp_pur, Dz.startE, Dz.w_dtup, Dz.w_dlst, Dz.asDs_nil, Dz.asDs_cons, Dz.w_some, Dz.w_kTup, Dz.w_kLst, Dz.w_addL, Dz.w_addT, Dz.w_sl, Dz.w_oNone, Dz.w_oSome, Dz.w_asI, Dz.w_slL, Dz.w_slT, Dz.w_zp, Dz.w_itZL, Dz.w_itZT, Dz.w_rg3, Dz.w_par, Dz.w_asg, Dz.w_asD, Dz.w_fld, Dz.w_sfd, Dz.w_mk, Dz.w_pro, Dz.w_isI, Dz.w_met, Dz.w_ncb, Dz.w_tupL, Dz.w_tupT, Dz.w_listL, Dz.w_listT, Dz.w_sorted, Dz.w_minI, Dz.w_itA, Dz.w_itAt, Dz.w_itAs, Dz.w_itAz, Dz.w_inT, Dz.w_inL, Dz.w_niT, Dz.w_inD, Dz.w_eqS, Dz.w_neS, Dz.w_eqI, Dz.w_neI, Dz.w_eqB, Dz.w_neB, Dz.w_eqL, Dz.w_neL, Dz.w_eqT, Dz.w_neT, Dz.dunNe_str, Dz.dunNe_bl, Dz.dunNe_int, Dz.dunNe_lst, Dz.dunNe_tup, Dz.dunNe_non, Dz.dunEq_str, Dz.dunEq_bl, Dz.dunEq_int, Dz.dunEq_lst, Dz.dunEq_tup, Dz.dunEq_non, Dz.dunIn_ins, Dz.tBoolX_ins, Dz.w_notB, Dz.w_isB, Dz.wp_bnd, Dz.w_mod, Dz.w_div, Dz.w_itR, Dz.w_itR2, Dz.w_fldD, Dz.w_cm, Dz.w_mkL, Dz.w_isC, Dz.w_fldL, Dz.w_stL, Dz.w_len, Dz.dInts_ints, Dz.ints_len, Dz.w_asgL, Dz.wipeE, Dz.setAll, List.map_cons, List.map_nil, List.length_cons, List.length_nil, List.replicate, List.cons_append, List.nil_append, List.append_nil, List.getElem?_cons_zero, List.getElem?_cons_succ, List.set_cons_zero, List.set_cons_succ, Nat.reduceAdd, Nat.reduceSub, Nat.zero_add, Nat.sub_zero, Bool.not_true, Bool.not_false, if_true, if_false, Bool.false_eq_true, reduceIte, decide_eq_true_eq, Option.map_some, Nat.reduceLeDiff, List.length_map, List.foldl_cons, List.foldl_nil, im, w0, eN, w1, w2, w3, or_s, and_s, eq_s, beq_self_eq_true, dunNe_bl]))
  have cm : ∀ (S : Sto) (Q : Unit → Sto → Prop), wp (isC "Limits" (.d (.cls "Limits"))) S Q ↔ Q () S := fun S Q => w_isC
  ((try rw [Dz.after_nx]); (simp (maxSteps := 4000000) (disch := first | assumption | ((repeat' (first | assumption | apply Lim.Sm.canon | apply Lim.Sm.jn | apply Lim.Sm.inv)); done) | omega | decide | (simp only [List.length_cons, List.length_nil, Nat.reduceAdd, Nat.reduceLeDiff]; done) | (simp only [List.length_cons, List.length_nil, List.length_map, Dz.ints_len]; omega)) only [Dz.wp_noE, Dz.noE_pur, Dz.w_var, Dz.w_c, Dz.w_op, Dz.w_ix, Dz.w_un, Dz.w_test, Dz.w_asB, Dz.w_not, Dz.w_and, Dz.w_or, Dz.w_if, Dz.w_sif, Dz.w_seq, Dz.after_rt, Dz.w_next, Dz.w_ret, Dz.w_set, Dz.w_drop, Dz.w_put, Dz.w_nil, Dz.w_cons, Dz.w_cb, Dz.w_call, Dz.w_tup, Dz.w_lst, Dz.w_cell, Dz.w_for, Dz.w_of, Dz.w_rg, Dz.w_new, Dz.w_newC, Dz.w_lc, Dz.w_join, Dz.w_isS, Dz.w_chain, Dz.w_eand, Dz.w_eor, Dz.w_enot, Dz.w_ltS, Dz.w_leS, Dz.w_is, Dz.w_isnot, Dz.w_inS, Dz.w_rpr, Dz.w_itS, Dz.w_itL, Dz.w_itLs, Dz.w_itT, Dz.w_add, Dz.w_sub, Dz.w_neg, Dz.w_lt, Dz.w_le, Dz.w_gt, Dz.w_ge, Dz.w_int, Dz.w_intb, Dz.w_abs, Dz.w_max, Dz.w_min, Dz.w_lenL, Dz.w_lenT, Dz.w_lenR, Dz.wp_pur, Dz.startE, Dz.w_dtup, Dz.w_dlst, Dz.asDs_nil, Dz.asDs_cons, Dz.w_some, Dz.w_kTup, Dz.w_kLst, Dz.w_addL, Dz.w_addT, Dz.w_sl, Dz.w_oNone, Dz.w_oSome, Dz.w_asI, Dz.w_slL, Dz.w_slT, Dz.w_zp, Dz.w_itZL, Dz.w_itZT, Dz.w_rg3, Dz.w_par, Dz.w_asg, Dz.w_asD, Dz.w_fld, Dz.w_sfd, Dz.w_mk, Dz.w_pro, Dz.w_isI, Dz.w_met, Dz.w_ncb, Dz.w_tupL, Dz.w_tupT, Dz.w_listL, Dz.w_listT, Dz.w_sorted, Dz.w_minI, Dz.w_itA, Dz.w_itAt, Dz.w_itAs, Dz.w_itAz, Dz.w_inT, Dz.w_inL, Dz.w_niT, Dz.w_inD, Dz.w_eqS, Dz.w_neS, Dz.w_eqI, Dz.w_neI, Dz.w_eqB, Dz.w_neB, Dz.w_eqL, Dz.w_neL, Dz.w_eqT, Dz.w_neT, Dz.dunNe_str, Dz.dunNe_bl, Dz.dunNe_int, Dz.dunNe_lst, Dz.dunNe_tup, Dz.dunNe_non, Dz.dunEq_str, Dz.dunEq_bl, Dz.dunEq_int, Dz.dunEq_lst, Dz.dunEq_tup, Dz.dunEq_non, Dz.dunIn_ins, Dz.tBoolX_ins, Dz.w_notB, Dz.w_isB, Dz.wp_bnd, Dz.w_mod, Dz.w_div, Dz.w_itR, Dz.w_itR2, Dz.w_fldD, Dz.w_cm, Dz.w_mkL, Dz.w_isC, Dz.w_fldL, Dz.w_stL, Dz.w_len, Dz.dInts_ints, Dz.ints_len, Dz.w_asgL, Dz.wipeE, Dz.setAll, List.map_cons, List.map_nil, List.length_cons, List.length_nil, List.replicate, List.cons_append, List.nil_append, List.append_nil, List.getElem?_cons_zero, List.getElem?_cons_succ, List.set_cons_zero, List.set_cons_succ, Nat.reduceAdd, Nat.reduceSub, Nat.zero_add, Nat.sub_zero, Bool.not_true, Bool.not_false, if_true, if_false, Bool.false_eq_true, reduceIte, decide_eq_true_eq, Option.map_some, Nat.reduceLeDiff, List.length_map, List.foldl_cons, List.foldl_nil, im, w0, w4, w5, every_eq, none_eq, sub_s, bool_s, dunEq_bl, cm, Bool.not_not, beq_self_eq_true]))
  refine ⟨_, rfl, rfl, ?_⟩
  rw [d1.take]
  exact d1
theorem lm (p c : Pt) (h : okB p = true) (e : ptEq (canon p) c = true) : mkI "Limits" f_Limits___init__ [.d (.tup (p.few.map D.int)), .d (.int p.fst), .d (.int p.per), .d (.tup (p.rst.map D.int))] = pur (.d (insL c)) := by
  rw [make_eq (okB_ok h), ptEq_iff.mp e]
def sO : Pt := ⟨[], 0, 2, [1]⟩
def sT : Pt := ⟨[2], 4, 3, [0]⟩
theorem m1 : mkI "Limits" f_Limits___init__ [.d (.tup []), .d (.int 0), .d (.int 2), .d (.tup [.int 1])] = pur (.d (insL sO)) := lm sO sO (by decide +kernel) (by decide +kernel)
theorem m2 : mkI "Limits" f_Limits___init__ [.d (.tup [.int 2]), .d (.int 5), .d (.int 3), .d (.tup [.int 0])] = pur (.d (insL sT)) := lm ⟨[2], 5, 3, [0]⟩ sT (by decide +kernel) (by decide +kernel)
def d1 : Pt := ⟨[], 5, 6, [3]⟩
def d2 : Pt := ⟨[1, 2, 3], 4, 6, [0, 1, 3, 5]⟩
def d3 : Pt := ⟨[1, 3], 4, 6, [1, 5]⟩
def d4 : Pt := ⟨[1, 2, 3], 4, 6, [0, 1, 5]⟩
def d5 : Pt := ⟨[0, 1, 3, 4], 5, 3, [1, 2]⟩
theorem m3 : mkI "Limits" f_Limits___init__ [.d (.tup []), .d (.int 5), .d (.int 6), .d (.tup [.int 3])] = pur (.d (insL (canon d1))) := make_eq (p := d1) (okB_ok (by decide +kernel))
theorem m4 : mkI "Limits" f_Limits___init__ [.d (.tup [.int 1, .int 2, .int 3]), .d (.int 4), .d (.int 6), .d (.tup [.int 0, .int 1, .int 3, .int 5])] = pur (.d (insL (canon d2))) := make_eq (p := d2) (okB_ok (by decide +kernel))
theorem m5 : mkI "Limits" f_Limits___init__ [.d (.tup [.int 1, .int 3]), .d (.int 4), .d (.int 6), .d (.tup [.int 1, .int 5])] = pur (.d (insL (canon d3))) := make_eq (p := d3) (okB_ok (by decide +kernel))
theorem m6 : mkI "Limits" f_Limits___init__ [.d (.tup [.int 1, .int 2, .int 3]), .d (.int 4), .d (.int 6), .d (.tup [.int 0, .int 1, .int 5])] = pur (.d (insL (canon d4))) := make_eq (p := d4) (okB_ok (by decide +kernel))
theorem m7 : mkI "Limits" f_Limits___init__ [.d (.tup [.int 0, .int 1, .int 3, .int 4]), .d (.int 5), .d (.int 3), .d (.tup [.int 1, .int 2])] = pur (.d (insL (canon d5))) := make_eq (p := d5) (okB_ok (by decide +kernel))
theorem sOs : Sm 9 sO := ⟨okB_ok (by decide +kernel), by decide, by decide⟩
theorem sTs : Sm 9 sT := ⟨okB_ok (by decide +kernel), by decide, by decide⟩
theorem eq_fin {p q r : Pt} {w : Bool → Bool → Bool} (s : Sm 9 p) (t : Sm 9 q) (u : Sm 9 r) (h : ((upto 0 69).all fun n => w (has p n) (has q n) == has r n) = true) : ptEq (canon (jn w p q)) (canon r) = true := eq_by (s.jn t) u fun n hn => by
  rw [hs_j s t hn]
  rw [List.all_eq_true] at h
  by_cases hf : n < 69
  · exact beq_iff_eq.mp (h n (mem_ints.mpr ⟨hn, by omega⟩))
  · have a := Int.emod_nonneg (n - 9) (show (60 : Int) ≠ 0 by omega)
    have b := Int.emod_lt_of_pos (n - 9) (show (0 : Int) < 60 by omega)
    rw [s.back (by decide) (by omega), t.back (by decide) (by omega), u.back (by decide) (by omega)]
    exact beq_iff_eq.mp (h _ (mem_ints.mpr ⟨by omega, by omega⟩))
theorem q1 : ptEq (canon (jn (fun a b => a && b) sO sT)) (canon d1) = true := eq_fin sOs sTs ⟨okB_ok (by decide +kernel), by decide, by decide⟩ (by decide +kernel)
theorem q2 : ptEq (canon (jn (fun a b => a || b) sO sT)) (canon d2) = true := eq_fin sOs sTs ⟨okB_ok (by decide +kernel), by decide, by decide⟩ (by decide +kernel)
theorem q3 : ptEq (canon (jn (fun a b => a && !b) sO sT)) (canon d3) = true := eq_fin sOs sTs ⟨okB_ok (by decide +kernel), by decide, by decide⟩ (by decide +kernel)
theorem q4 : ptEq (canon (jn (fun a b => a != b) sO sT)) (canon d4) = true := eq_fin sOs sTs ⟨okB_ok (by decide +kernel), by decide, by decide⟩ (by decide +kernel)
theorem q5 : ptEq (canon (inv sT)) (canon d5) = true := by decide +kernel
theorem pairs_L : ∀ l : List (Pt × Pt), (∀ x ∈ l, ptEq x.1 x.2 = true) → Pairs "Limits" f_Limits___eq__ (l.map fun x => insL x.1) (l.map fun x => insL x.2)
  | [], _ => trivial
  | (a, b) :: l, h => by
    refine ⟨rfl, rfl, ?_, pairs_L l fun x hx => h x (List.mem_cons_of_mem _ hx)⟩
    show f_Limits___eq__ [.d (insL a), .d (insL b)] = _
    rw [eq_eq, h (a, b) List.mem_cons_self]
theorem law_true (ns : List Int) (hl : ns.length ≤ 63) : ∃ S', f_law [.d (.scr ns)] [] = .ok (.d (.bl true)) S' := by
  suffices h : wp (f_law [.d (.scr ns)]) [] fun x _ => x = .d (.bl true) by
    obtain ⟨x, S', e, rfl⟩ := h
    exact ⟨S', e⟩
  apply wp_fn
  unfold b_law
  ((try rw [Dz.after_nx]); (simp (maxSteps := 4000000) (disch := first | omega | decide | assumption | (simp only [List.length_cons, List.length_nil, Nat.reduceAdd, Nat.reduceLeDiff]; done) | (simp only [List.length_cons, List.length_nil, List.length_map, Dz.ints_len]; omega)) only [Dz.wp_noE, Dz.noE_pur, Dz.w_var, Dz.w_c, Dz.w_op, Dz.w_ix, Dz.w_un, Dz.w_test, Dz.w_asB, Dz.w_not, Dz.w_and, Dz.w_or, Dz.w_if, Dz.w_sif, Dz.w_seq, Dz.after_rt, Dz.w_next, Dz.w_ret, Dz.w_set, Dz.w_drop, Dz.w_put, Dz.w_nil, Dz.w_cons, Dz.w_cb, Dz.w_call, Dz.w_tup, Dz.w_lst, Dz.w_cell, Dz.w_for, Dz.w_of, Dz.w_rg, Dz.w_new, Dz.w_newC, Dz.w_lc, Dz.w_join, Dz.w_isS, Dz.w_chain, Dz.w_eand, Dz.w_eor, Dz.w_enot, Dz.w_ltS, Dz.w_leS, Dz.w_is, Dz.w_isnot, Dz.w_inS, Dz.w_rpr, Dz.w_itS, Dz.w_itL, Dz.w_itLs, Dz.w_itT, Dz.w_add, Dz.w_sub, Dz.w_neg, Dz.w_lt, Dz.w_le, Dz.w_gt, Dz.w_ge, Dz.w_int, Dz.w_intb, Dz.w_abs, Dz.w_max, Dz.w_min, Dz.w_lenL, Dz.w_lenT, Dz.w_lenR, Dz.wp_pur, Dz.startE, Dz.w_dtup, Dz.w_dlst, Dz.asDs_nil, Dz.asDs_cons, Dz.w_some, Dz.w_kTup, Dz.w_kLst, Dz.w_addL, Dz.w_addT, Dz.w_sl, Dz.w_oNone, Dz.w_oSome, Dz.w_asI, Dz.w_slL, Dz.w_slT, Dz.w_zp, Dz.w_itZL, Dz.w_itZT, Dz.w_rg3, Dz.w_par, Dz.w_asg, Dz.w_asD, Dz.w_fld, Dz.w_sfd, Dz.w_mk, Dz.w_pro, Dz.w_isI, Dz.w_met, Dz.w_ncb, Dz.w_tupL, Dz.w_tupT, Dz.w_listL, Dz.w_listT, Dz.w_sorted, Dz.w_minI, Dz.w_itA, Dz.w_itAt, Dz.w_itAs, Dz.w_itAz, Dz.w_inT, Dz.w_inL, Dz.w_niT, Dz.w_inD, Dz.w_eqS, Dz.w_neS, Dz.w_eqI, Dz.w_neI, Dz.w_eqB, Dz.w_neB, Dz.w_eqL, Dz.w_neL, Dz.w_eqT, Dz.w_neT, Dz.dunNe_str, Dz.dunNe_bl, Dz.dunNe_int, Dz.dunNe_lst, Dz.dunNe_tup, Dz.dunNe_non, Dz.dunEq_str, Dz.dunEq_bl, Dz.dunEq_int, Dz.dunEq_lst, Dz.dunEq_tup, Dz.dunEq_non, Dz.dunIn_ins, Dz.tBoolX_ins, Dz.w_notB, Dz.w_isB, Dz.wp_bnd, Dz.w_mod, Dz.w_div, Dz.w_itR, Dz.w_itR2, Dz.w_fldD, Dz.w_cm, Dz.w_mkL, Dz.w_isC, Dz.w_fldL, Dz.w_stL, Dz.w_len, Dz.dInts_ints, Dz.ints_len, Dz.w_asgL, Dz.wipeE, Dz.setAll, List.map_cons, List.map_nil, List.length_cons, List.length_nil, List.replicate, List.cons_append, List.nil_append, List.append_nil, List.getElem?_cons_zero, List.getElem?_cons_succ, List.set_cons_zero, List.set_cons_succ, Nat.reduceAdd, Nat.reduceSub, Nat.zero_add, Nat.sub_zero, Bool.not_true, Bool.not_false, if_true, if_false, Bool.false_eq_true, reduceIte, decide_eq_true_eq, Option.map_some, Nat.reduceLeDiff, List.length_map, List.foldl_cons, List.foldl_nil]))
  refine forL_inv (I := fun ρ _ => ∃ a, ρ = [some (.d (.scr ns)), a, none, none, none, none]) _ _ [] ⟨_, rfl⟩ (fun x hx ρ S hI => ?_) fun ρ S hI => ?_
  · obtain ⟨a, rfl⟩ := hI
    have hm := mem_ints.mp hx
    ((try rw [Dz.after_nx]); (simp (maxSteps := 4000000) (disch := first | omega | decide | assumption | (simp only [List.length_cons, List.length_nil, Nat.reduceAdd, Nat.reduceLeDiff]; done) | (simp only [List.length_cons, List.length_nil, List.length_map, Dz.ints_len]; omega)) only [Dz.wp_noE, Dz.noE_pur, Dz.w_var, Dz.w_c, Dz.w_op, Dz.w_ix, Dz.w_un, Dz.w_test, Dz.w_asB, Dz.w_not, Dz.w_and, Dz.w_or, Dz.w_if, Dz.w_sif, Dz.w_seq, Dz.after_rt, Dz.w_next, Dz.w_ret, Dz.w_set, Dz.w_drop, Dz.w_put, Dz.w_nil, Dz.w_cons, Dz.w_cb, Dz.w_call, Dz.w_tup, Dz.w_lst, Dz.w_cell, Dz.w_for, Dz.w_of, Dz.w_rg, Dz.w_new, Dz.w_newC, Dz.w_lc, Dz.w_join, Dz.w_isS, Dz.w_chain, Dz.w_eand, Dz.w_eor, Dz.w_enot, Dz.w_ltS, Dz.w_leS, Dz.w_is, Dz.w_isnot, Dz.w_inS, Dz.w_rpr, Dz.w_itS, Dz.w_itL, Dz.w_itLs, Dz.w_itT, Dz.w_add, Dz.w_sub, Dz.w_neg, Dz.w_lt, Dz.w_le, Dz.w_gt, Dz.w_ge, Dz.w_int, Dz.w_intb, Dz.w_abs, Dz.w_max, Dz.w_min, Dz.w_lenL, Dz.w_lenT, Dz.w_lenR, Dz.wp_pur, Dz.startE, Dz.w_dtup, Dz.w_dlst, Dz.asDs_nil, Dz.asDs_cons, Dz.w_some, Dz.w_kTup, Dz.w_kLst, Dz.w_addL, Dz.w_addT, Dz.w_sl, Dz.w_oNone, Dz.w_oSome, Dz.w_asI, Dz.w_slL, Dz.w_slT, Dz.w_zp, Dz.w_itZL, Dz.w_itZT, Dz.w_rg3, Dz.w_par, Dz.w_asg, Dz.w_asD, Dz.w_fld, Dz.w_sfd, Dz.w_mk, Dz.w_pro, Dz.w_isI, Dz.w_met, Dz.w_ncb, Dz.w_tupL, Dz.w_tupT, Dz.w_listL, Dz.w_listT, Dz.w_sorted, Dz.w_minI, Dz.w_itA, Dz.w_itAt, Dz.w_itAs, Dz.w_itAz, Dz.w_inT, Dz.w_inL, Dz.w_niT, Dz.w_inD, Dz.w_eqS, Dz.w_neS, Dz.w_eqI, Dz.w_neI, Dz.w_eqB, Dz.w_neB, Dz.w_eqL, Dz.w_neL, Dz.w_eqT, Dz.w_neT, Dz.dunNe_str, Dz.dunNe_bl, Dz.dunNe_int, Dz.dunNe_lst, Dz.dunNe_tup, Dz.dunNe_non, Dz.dunEq_str, Dz.dunEq_bl, Dz.dunEq_int, Dz.dunEq_lst, Dz.dunEq_tup, Dz.dunEq_non, Dz.dunIn_ins, Dz.tBoolX_ins, Dz.w_notB, Dz.w_isB, Dz.wp_bnd, Dz.w_mod, Dz.w_div, Dz.w_itR, Dz.w_itR2, Dz.w_fldD, Dz.w_cm, Dz.w_mkL, Dz.w_isC, Dz.w_fldL, Dz.w_stL, Dz.w_len, Dz.dInts_ints, Dz.ints_len, Dz.w_asgL, Dz.wipeE, Dz.setAll, List.map_cons, List.map_nil, List.length_cons, List.length_nil, List.replicate, List.cons_append, List.nil_append, List.append_nil, List.getElem?_cons_zero, List.getElem?_cons_succ, List.set_cons_zero, List.set_cons_succ, Nat.reduceAdd, Nat.reduceSub, Nat.zero_add, Nat.sub_zero, Bool.not_true, Bool.not_false, if_true, if_false, Bool.false_eq_true, reduceIte, decide_eq_true_eq, Option.map_some, Nat.reduceLeDiff, List.length_map, List.foldl_cons, List.foldl_nil]))
    refine wp_mono (urn_wp (by omega) (by
      have : (if (if (ns.length : Int) < 10 then (ns.length : Int) else 10) > 1 then if (ns.length : Int) < 10 then (ns.length : Int) else 10 else 1) ≤ 10 := by split <;> split <;> omega
      omega)) ?_
    rintro _ _ ⟨rfl, u, v, w, rfl⟩
    have dd : Die S.length (S ++ [.lst [.int u, .int v, .int w]]) := ⟨u, v, w, List.getElem?_concat_length⟩
    refine wp_mono (right_wp dd) ?_
    rintro _ S2 ⟨rfl, d2⟩
    ((try rw [Dz.after_nx]); (simp (maxSteps := 4000000) (disch := first | omega | decide | assumption | (simp only [List.length_cons, List.length_nil, Nat.reduceAdd, Nat.reduceLeDiff]; done) | (simp only [List.length_cons, List.length_nil, List.length_map, Dz.ints_len]; omega)) only [Dz.wp_noE, Dz.noE_pur, Dz.w_var, Dz.w_c, Dz.w_op, Dz.w_ix, Dz.w_un, Dz.w_test, Dz.w_asB, Dz.w_not, Dz.w_and, Dz.w_or, Dz.w_if, Dz.w_sif, Dz.w_seq, Dz.after_rt, Dz.w_next, Dz.w_ret, Dz.w_set, Dz.w_drop, Dz.w_put, Dz.w_nil, Dz.w_cons, Dz.w_cb, Dz.w_call, Dz.w_tup, Dz.w_lst, Dz.w_cell, Dz.w_for, Dz.w_of, Dz.w_rg, Dz.w_new, Dz.w_newC, Dz.w_lc, Dz.w_join, Dz.w_isS, Dz.w_chain, Dz.w_eand, Dz.w_eor, Dz.w_enot, Dz.w_ltS, Dz.w_leS, Dz.w_is, Dz.w_isnot, Dz.w_inS, Dz.w_rpr, Dz.w_itS, Dz.w_itL, Dz.w_itLs, Dz.w_itT, Dz.w_add, Dz.w_sub, Dz.w_neg, Dz.w_lt, Dz.w_le, Dz.w_gt, Dz.w_ge, Dz.w_int, Dz.w_intb, Dz.w_abs, Dz.w_max, Dz.w_min, Dz.w_lenL, Dz.w_lenT, Dz.w_lenR, Dz.wp_pur, Dz.startE, Dz.w_dtup, Dz.w_dlst, Dz.asDs_nil, Dz.asDs_cons, Dz.w_some, Dz.w_kTup, Dz.w_kLst, Dz.w_addL, Dz.w_addT, Dz.w_sl, Dz.w_oNone, Dz.w_oSome, Dz.w_asI, Dz.w_slL, Dz.w_slT, Dz.w_zp, Dz.w_itZL, Dz.w_itZT, Dz.w_rg3, Dz.w_par, Dz.w_asg, Dz.w_asD, Dz.w_fld, Dz.w_sfd, Dz.w_mk, Dz.w_pro, Dz.w_isI, Dz.w_met, Dz.w_ncb, Dz.w_tupL, Dz.w_tupT, Dz.w_listL, Dz.w_listT, Dz.w_sorted, Dz.w_minI, Dz.w_itA, Dz.w_itAt, Dz.w_itAs, Dz.w_itAz, Dz.w_inT, Dz.w_inL, Dz.w_niT, Dz.w_inD, Dz.w_eqS, Dz.w_neS, Dz.w_eqI, Dz.w_neI, Dz.w_eqB, Dz.w_neB, Dz.w_eqL, Dz.w_neL, Dz.w_eqT, Dz.w_neT, Dz.dunNe_str, Dz.dunNe_bl, Dz.dunNe_int, Dz.dunNe_lst, Dz.dunNe_tup, Dz.dunNe_non, Dz.dunEq_str, Dz.dunEq_bl, Dz.dunEq_int, Dz.dunEq_lst, Dz.dunEq_tup, Dz.dunEq_non, Dz.dunIn_ins, Dz.tBoolX_ins, Dz.w_notB, Dz.w_isB, Dz.wp_bnd, Dz.w_mod, Dz.w_div, Dz.w_itR, Dz.w_itR2, Dz.w_fldD, Dz.w_cm, Dz.w_mkL, Dz.w_isC, Dz.w_fldL, Dz.w_stL, Dz.w_len, Dz.dInts_ints, Dz.ints_len, Dz.w_asgL, Dz.wipeE, Dz.setAll, List.map_cons, List.map_nil, List.length_cons, List.length_nil, List.replicate, List.cons_append, List.nil_append, List.append_nil, List.getElem?_cons_zero, List.getElem?_cons_succ, List.set_cons_zero, List.set_cons_succ, Nat.reduceAdd, Nat.reduceSub, Nat.zero_add, Nat.sub_zero, Bool.not_true, Bool.not_false, if_true, if_false, Bool.false_eq_true, reduceIte, decide_eq_true_eq, Option.map_some, Nat.reduceLeDiff, List.length_map, List.foldl_cons, List.foldl_nil]))
    exact ⟨_, rfl, _, rfl⟩
  · obtain ⟨a, rfl⟩ := hI
    ((try rw [Dz.after_nx]); (simp (maxSteps := 4000000) (disch := first | omega | decide | assumption | (simp only [List.length_cons, List.length_nil, Nat.reduceAdd, Nat.reduceLeDiff]; done) | (simp only [List.length_cons, List.length_nil, List.length_map, Dz.ints_len]; omega)) only [Dz.wp_noE, Dz.noE_pur, Dz.w_var, Dz.w_c, Dz.w_op, Dz.w_ix, Dz.w_un, Dz.w_test, Dz.w_asB, Dz.w_not, Dz.w_and, Dz.w_or, Dz.w_if, Dz.w_sif, Dz.w_seq, Dz.after_rt, Dz.w_next, Dz.w_ret, Dz.w_set, Dz.w_drop, Dz.w_put, Dz.w_nil, Dz.w_cons, Dz.w_cb, Dz.w_call, Dz.w_tup, Dz.w_lst, Dz.w_cell, Dz.w_for, Dz.w_of, Dz.w_rg, Dz.w_new, Dz.w_newC, Dz.w_lc, Dz.w_join, Dz.w_isS, Dz.w_chain, Dz.w_eand, Dz.w_eor, Dz.w_enot, Dz.w_ltS, Dz.w_leS, Dz.w_is, Dz.w_isnot, Dz.w_inS, Dz.w_rpr, Dz.w_itS, Dz.w_itL, Dz.w_itLs, Dz.w_itT, Dz.w_add, Dz.w_sub, Dz.w_neg, Dz.w_lt, Dz.w_le, Dz.w_gt, Dz.w_ge, Dz.w_int, Dz.w_intb, Dz.w_abs, Dz.w_max, Dz.w_min, Dz.w_lenL, Dz.w_lenT, Dz.w_lenR, Dz.wp_pur, Dz.startE, Dz.w_dtup, Dz.w_dlst, Dz.asDs_nil, Dz.asDs_cons, Dz.w_some, Dz.w_kTup, Dz.w_kLst, Dz.w_addL, Dz.w_addT, Dz.w_sl, Dz.w_oNone, Dz.w_oSome, Dz.w_asI, Dz.w_slL, Dz.w_slT, Dz.w_zp, Dz.w_itZL, Dz.w_itZT, Dz.w_rg3, Dz.w_par, Dz.w_asg, Dz.w_asD, Dz.w_fld, Dz.w_sfd, Dz.w_mk, Dz.w_pro, Dz.w_isI, Dz.w_met, Dz.w_ncb, Dz.w_tupL, Dz.w_tupT, Dz.w_listL, Dz.w_listT, Dz.w_sorted, Dz.w_minI, Dz.w_itA, Dz.w_itAt, Dz.w_itAs, Dz.w_itAz, Dz.w_inT, Dz.w_inL, Dz.w_niT, Dz.w_inD, Dz.w_eqS, Dz.w_neS, Dz.w_eqI, Dz.w_neI, Dz.w_eqB, Dz.w_neB, Dz.w_eqL, Dz.w_neL, Dz.w_eqT, Dz.w_neT, Dz.dunNe_str, Dz.dunNe_bl, Dz.dunNe_int, Dz.dunNe_lst, Dz.dunNe_tup, Dz.dunNe_non, Dz.dunEq_str, Dz.dunEq_bl, Dz.dunEq_int, Dz.dunEq_lst, Dz.dunEq_tup, Dz.dunEq_non, Dz.dunIn_ins, Dz.tBoolX_ins, Dz.w_notB, Dz.w_isB, Dz.wp_bnd, Dz.w_mod, Dz.w_div, Dz.w_itR, Dz.w_itR2, Dz.w_fldD, Dz.w_cm, Dz.w_mkL, Dz.w_isC, Dz.w_fldL, Dz.w_stL, Dz.w_len, Dz.dInts_ints, Dz.ints_len, Dz.w_asgL, Dz.wipeE, Dz.setAll, List.map_cons, List.map_nil, List.length_cons, List.length_nil, List.replicate, List.cons_append, List.nil_append, List.append_nil, List.getElem?_cons_zero, List.getElem?_cons_succ, List.set_cons_zero, List.set_cons_succ, Nat.reduceAdd, Nat.reduceSub, Nat.zero_add, Nat.sub_zero, Bool.not_true, Bool.not_false, if_true, if_false, Bool.false_eq_true, reduceIte, decide_eq_true_eq, Option.map_some, Nat.reduceLeDiff, List.length_map, List.foldl_cons, List.foldl_nil, m1, m2]))
    have s1 := sOs
    have s2 := sTs
    ((try rw [Dz.after_nx]); (simp (maxSteps := 4000000) (disch := first | assumption | ((repeat' (first | assumption | apply Lim.Sm.canon | apply Lim.Sm.jn | apply Lim.Sm.inv)); done) | omega | decide | (simp only [List.length_cons, List.length_nil, Nat.reduceAdd, Nat.reduceLeDiff]; done) | (simp only [List.length_cons, List.length_nil, List.length_map, Dz.ints_len]; omega)) only [Dz.wp_noE, Dz.noE_pur, Dz.w_var, Dz.w_c, Dz.w_op, Dz.w_ix, Dz.w_un, Dz.w_test, Dz.w_asB, Dz.w_not, Dz.w_and, Dz.w_or, Dz.w_if, Dz.w_sif, Dz.w_seq, Dz.after_rt, Dz.w_next, Dz.w_ret, Dz.w_set, Dz.w_drop, Dz.w_put, Dz.w_nil, Dz.w_cons, Dz.w_cb, Dz.w_call, Dz.w_tup, Dz.w_lst, Dz.w_cell, Dz.w_for, Dz.w_of, Dz.w_rg, Dz.w_new, Dz.w_newC, Dz.w_lc, Dz.w_join, Dz.w_isS, Dz.w_chain, Dz.w_eand, Dz.w_eor, Dz.w_enot, Dz.w_ltS, Dz.w_leS, Dz.w_is, Dz.w_isnot, Dz.w_inS, Dz.w_rpr, Dz.w_itS, Dz.w_itL, Dz.w_itLs, Dz.w_itT, Dz.w_add, Dz.w_sub, Dz.w_neg, Dz.w_lt, Dz.w_le, Dz.w_gt, Dz.w_ge, Dz.w_int, Dz.w_intb, Dz.w_abs, Dz.w_max, Dz.w_min, Dz.w_lenL, Dz.w_lenT, Dz.w_lenR, Dz.wp_pur, Dz.startE, Dz.w_dtup, Dz.w_dlst, Dz.asDs_nil, Dz.asDs_cons, Dz.w_some, Dz.w_kTup, Dz.w_kLst, Dz.w_addL, Dz.w_addT, Dz.w_sl, Dz.w_oNone, Dz.w_oSome, Dz.w_asI, Dz.w_slL, Dz.w_slT, Dz.w_zp, Dz.w_itZL, Dz.w_itZT, Dz.w_rg3, Dz.w_par, Dz.w_asg, Dz.w_asD, Dz.w_fld, Dz.w_sfd, Dz.w_mk, Dz.w_pro, Dz.w_isI, Dz.w_met, Dz.w_ncb, Dz.w_tupL, Dz.w_tupT, Dz.w_listL, Dz.w_listT, Dz.w_sorted, Dz.w_minI, Dz.w_itA, Dz.w_itAt, Dz.w_itAs, Dz.w_itAz, Dz.w_inT, Dz.w_inL, Dz.w_niT, Dz.w_inD, Dz.w_eqS, Dz.w_neS, Dz.w_eqI, Dz.w_neI, Dz.w_eqB, Dz.w_neB, Dz.w_eqL, Dz.w_neL, Dz.w_eqT, Dz.w_neT, Dz.dunNe_str, Dz.dunNe_bl, Dz.dunNe_int, Dz.dunNe_lst, Dz.dunNe_tup, Dz.dunNe_non, Dz.dunEq_str, Dz.dunEq_bl, Dz.dunEq_int, Dz.dunEq_lst, Dz.dunEq_tup, Dz.dunEq_non, Dz.dunIn_ins, Dz.tBoolX_ins, Dz.w_notB, Dz.w_isB, Dz.wp_bnd, Dz.w_mod, Dz.w_div, Dz.w_itR, Dz.w_itR2, Dz.w_fldD, Dz.w_cm, Dz.w_mkL, Dz.w_isC, Dz.w_fldL, Dz.w_stL, Dz.w_len, Dz.dInts_ints, Dz.ints_len, Dz.w_asgL, Dz.wipeE, Dz.setAll, List.map_cons, List.map_nil, List.length_cons, List.length_nil, List.replicate, List.cons_append, List.nil_append, List.append_nil, List.getElem?_cons_zero, List.getElem?_cons_succ, List.set_cons_zero, List.set_cons_succ, Nat.reduceAdd, Nat.reduceSub, Nat.zero_add, Nat.sub_zero, Bool.not_true, Bool.not_false, if_true, if_false, Bool.false_eq_true, reduceIte, decide_eq_true_eq, Option.map_some, Nat.reduceLeDiff, List.length_map, List.foldl_cons, List.foldl_nil, and_s, or_s, sub_s, xor_s, inv_s]))
    ((try rw [Dz.after_nx]); (simp (maxSteps := 4000000) (disch := first | assumption | ((repeat' (first | assumption | apply Lim.Sm.canon | apply Lim.Sm.jn | apply Lim.Sm.inv)); done) | omega | decide | (simp only [List.length_cons, List.length_nil, Nat.reduceAdd, Nat.reduceLeDiff]; done) | (simp only [List.length_cons, List.length_nil, List.length_map, Dz.ints_len]; omega)) only [Dz.wp_noE, Dz.noE_pur, Dz.w_var, Dz.w_c, Dz.w_op, Dz.w_ix, Dz.w_un, Dz.w_test, Dz.w_asB, Dz.w_not, Dz.w_and, Dz.w_or, Dz.w_if, Dz.w_sif, Dz.w_seq, Dz.after_rt, Dz.w_next, Dz.w_ret, Dz.w_set, Dz.w_drop, Dz.w_put, Dz.w_nil, Dz.w_cons, Dz.w_cb, Dz.w_call, Dz.w_tup, Dz.w_lst, Dz.w_cell, Dz.w_for, Dz.w_of, Dz.w_rg, Dz.w_new, Dz.w_newC, Dz.w_lc, Dz.w_join, Dz.w_isS, Dz.w_chain, Dz.w_eand, Dz.w_eor, Dz.w_enot, Dz.w_ltS, Dz.w_leS, Dz.w_is, Dz.w_isnot, Dz.w_inS, Dz.w_rpr, Dz.w_itS, Dz.w_itL, Dz.w_itLs, Dz.w_itT, Dz.w_add, Dz.w_sub, Dz.w_neg, Dz.w_lt, Dz.w_le, Dz.w_gt, Dz.w_ge, Dz.w_int, Dz.w_intb, Dz.w_abs, Dz.w_max, Dz.w_min, Dz.w_lenL, Dz.w_lenT, Dz.w_lenR, Dz.wp_pur, Dz.startE, Dz.w_dtup, Dz.w_dlst, Dz.asDs_nil, Dz.asDs_cons, Dz.w_some, Dz.w_kTup, Dz.w_kLst, Dz.w_addL, Dz.w_addT, Dz.w_sl, Dz.w_oNone, Dz.w_oSome, Dz.w_asI, Dz.w_slL, Dz.w_slT, Dz.w_zp, Dz.w_itZL, Dz.w_itZT, Dz.w_rg3, Dz.w_par, Dz.w_asg, Dz.w_asD, Dz.w_fld, Dz.w_sfd, Dz.w_mk, Dz.w_pro, Dz.w_isI, Dz.w_met, Dz.w_ncb, Dz.w_tupL, Dz.w_tupT, Dz.w_listL, Dz.w_listT, Dz.w_sorted, Dz.w_minI, Dz.w_itA, Dz.w_itAt, Dz.w_itAs, Dz.w_itAz, Dz.w_inT, Dz.w_inL, Dz.w_niT, Dz.w_inD, Dz.w_eqS, Dz.w_neS, Dz.w_eqI, Dz.w_neI, Dz.w_eqB, Dz.w_neB, Dz.w_eqL, Dz.w_neL, Dz.w_eqT, Dz.w_neT, Dz.dunNe_str, Dz.dunNe_bl, Dz.dunNe_int, Dz.dunNe_lst, Dz.dunNe_tup, Dz.dunNe_non, Dz.dunEq_str, Dz.dunEq_bl, Dz.dunEq_int, Dz.dunEq_lst, Dz.dunEq_tup, Dz.dunEq_non, Dz.dunIn_ins, Dz.tBoolX_ins, Dz.w_notB, Dz.w_isB, Dz.wp_bnd, Dz.w_mod, Dz.w_div, Dz.w_itR, Dz.w_itR2, Dz.w_fldD, Dz.w_cm, Dz.w_mkL, Dz.w_isC, Dz.w_fldL, Dz.w_stL, Dz.w_len, Dz.dInts_ints, Dz.ints_len, Dz.w_asgL, Dz.wipeE, Dz.setAll, List.map_cons, List.map_nil, List.length_cons, List.length_nil, List.replicate, List.cons_append, List.nil_append, List.append_nil, List.getElem?_cons_zero, List.getElem?_cons_succ, List.set_cons_zero, List.set_cons_succ, Nat.reduceAdd, Nat.reduceSub, Nat.zero_add, Nat.sub_zero, Bool.not_true, Bool.not_false, if_true, if_false, Bool.false_eq_true, reduceIte, decide_eq_true_eq, Option.map_some, Nat.reduceLeDiff, List.length_map, List.foldl_cons, List.foldl_nil, m3, m4, m5]))
    ((try rw [Dz.after_nx]); (simp (maxSteps := 4000000) (disch := first | assumption | ((repeat' (first | assumption | apply Lim.Sm.canon | apply Lim.Sm.jn | apply Lim.Sm.inv)); done) | omega | decide | (simp only [List.length_cons, List.length_nil, Nat.reduceAdd, Nat.reduceLeDiff]; done) | (simp only [List.length_cons, List.length_nil, List.length_map, Dz.ints_len]; omega)) only [Dz.wp_noE, Dz.noE_pur, Dz.w_var, Dz.w_c, Dz.w_op, Dz.w_ix, Dz.w_un, Dz.w_test, Dz.w_asB, Dz.w_not, Dz.w_and, Dz.w_or, Dz.w_if, Dz.w_sif, Dz.w_seq, Dz.after_rt, Dz.w_next, Dz.w_ret, Dz.w_set, Dz.w_drop, Dz.w_put, Dz.w_nil, Dz.w_cons, Dz.w_cb, Dz.w_call, Dz.w_tup, Dz.w_lst, Dz.w_cell, Dz.w_for, Dz.w_of, Dz.w_rg, Dz.w_new, Dz.w_newC, Dz.w_lc, Dz.w_join, Dz.w_isS, Dz.w_chain, Dz.w_eand, Dz.w_eor, Dz.w_enot, Dz.w_ltS, Dz.w_leS, Dz.w_is, Dz.w_isnot, Dz.w_inS, Dz.w_rpr, Dz.w_itS, Dz.w_itL, Dz.w_itLs, Dz.w_itT, Dz.w_add, Dz.w_sub, Dz.w_neg, Dz.w_lt, Dz.w_le, Dz.w_gt, Dz.w_ge, Dz.w_int, Dz.w_intb, Dz.w_abs, Dz.w_max, Dz.w_min, Dz.w_lenL, Dz.w_lenT, Dz.w_lenR, Dz.wp_pur, Dz.startE, Dz.w_dtup, Dz.w_dlst, Dz.asDs_nil, Dz.asDs_cons, Dz.w_some, Dz.w_kTup, Dz.w_kLst, Dz.w_addL, Dz.w_addT, Dz.w_sl, Dz.w_oNone, Dz.w_oSome, Dz.w_asI, Dz.w_slL, Dz.w_slT, Dz.w_zp, Dz.w_itZL, Dz.w_itZT, Dz.w_rg3, Dz.w_par, Dz.w_asg, Dz.w_asD, Dz.w_fld, Dz.w_sfd, Dz.w_mk, Dz.w_pro, Dz.w_isI, Dz.w_met, Dz.w_ncb, Dz.w_tupL, Dz.w_tupT, Dz.w_listL, Dz.w_listT, Dz.w_sorted, Dz.w_minI, Dz.w_itA, Dz.w_itAt, Dz.w_itAs, Dz.w_itAz, Dz.w_inT, Dz.w_inL, Dz.w_niT, Dz.w_inD, Dz.w_eqS, Dz.w_neS, Dz.w_eqI, Dz.w_neI, Dz.w_eqB, Dz.w_neB, Dz.w_eqL, Dz.w_neL, Dz.w_eqT, Dz.w_neT, Dz.dunNe_str, Dz.dunNe_bl, Dz.dunNe_int, Dz.dunNe_lst, Dz.dunNe_tup, Dz.dunNe_non, Dz.dunEq_str, Dz.dunEq_bl, Dz.dunEq_int, Dz.dunEq_lst, Dz.dunEq_tup, Dz.dunEq_non, Dz.dunIn_ins, Dz.tBoolX_ins, Dz.w_notB, Dz.w_isB, Dz.wp_bnd, Dz.w_mod, Dz.w_div, Dz.w_itR, Dz.w_itR2, Dz.w_fldD, Dz.w_cm, Dz.w_mkL, Dz.w_isC, Dz.w_fldL, Dz.w_stL, Dz.w_len, Dz.dInts_ints, Dz.ints_len, Dz.w_asgL, Dz.wipeE, Dz.setAll, List.map_cons, List.map_nil, List.length_cons, List.length_nil, List.replicate, List.cons_append, List.nil_append, List.append_nil, List.getElem?_cons_zero, List.getElem?_cons_succ, List.set_cons_zero, List.set_cons_succ, Nat.reduceAdd, Nat.reduceSub, Nat.zero_add, Nat.sub_zero, Bool.not_true, Bool.not_false, if_true, if_false, Bool.false_eq_true, reduceIte, decide_eq_true_eq, Option.map_some, Nat.reduceLeDiff, List.length_map, List.foldl_cons, List.foldl_nil, m6, m7]))
    have w1 : f_Limits_is_within [.d (insL sO), .d (insL sT)] = pur (.d (.bl false)) := by
      rw [within_s s1 s2]
      congr 3
      rw [Bool.not_eq_false', some_s (s1.jn s2)]
      exact ⟨1, by decide, by rw [hs_j s1 s2 (by decide)]; decide +kernel⟩
    have w2 : f_Limits_is_within [.d (insL (canon (jn (fun a b => a && b) sO sT))), .d (insL sT)] = pur (.d (.bl true)) := by
      rw [within_s (s1.jn s2).canon s2]
      congr 3
      rw [Bool.not_eq_true', ← Bool.not_eq_true, some_s ((s1.jn s2).canon.jn s2)]
      rintro ⟨n, h0, h1⟩
      simp (disch := first | assumption | ((repeat' (first | assumption | apply Lim.Sm.canon | apply Lim.Sm.jn | apply Lim.Sm.inv)); done) | omega) only [hs_c, hs_j] at h1
      revert h1
      cases has sO n <;> cases has sT n <;> decide
    have im : ∀ (X : Pt) (S : Sto) (Q : Unit → Sto → Prop), wp (isM "Limits" "is_within" (.d (insL X))) S Q ↔ Q () S := fun X S Q => isM_s rfl
    have pp := eqLs_pairs (g := cEqX) (pairs_L [(canon (jn (fun a b => a && b) sO sT), canon d1), (canon (jn (fun a b => a || b) sO sT), canon d2), (canon (jn (fun a b => a && !b) sO sT), canon d3), (canon (jn (fun a b => a != b) sO sT), canon d4), (canon (inv sT), canon d5)] (by
      intro x hx
      simp only [List.mem_cons, List.not_mem_nil, or_false] at hx
      rcases hx with rfl | rfl | rfl | rfl | rfl
      · exact q1
      · exact q2
      · exact q3
      · exact q4
      · exact q5))
    simp only [List.map_cons, List.map_nil] at pp
    ((try rw [Dz.after_nx]); (simp (maxSteps := 4000000) (disch := first | assumption | ((repeat' (first | assumption | apply Lim.Sm.canon | apply Lim.Sm.jn | apply Lim.Sm.inv)); done) | omega | decide | (simp only [List.length_cons, List.length_nil, Nat.reduceAdd, Nat.reduceLeDiff]; done) | (simp only [List.length_cons, List.length_nil, List.length_map, Dz.ints_len]; omega)) only [Dz.wp_noE, Dz.noE_pur, Dz.w_var, Dz.w_c, Dz.w_op, Dz.w_ix, Dz.w_un, Dz.w_test, Dz.w_asB, Dz.w_not, Dz.w_and, Dz.w_or, Dz.w_if, Dz.w_sif, Dz.w_seq, Dz.after_rt, Dz.w_next, Dz.w_ret, Dz.w_set, Dz.w_drop, Dz.w_put, Dz.w_nil, Dz.w_cons, Dz.w_cb, Dz.w_call, Dz.w_tup, Dz.w_lst, Dz.w_cell, Dz.w_for, Dz.w_of, Dz.w_rg, Dz.w_new, Dz.w_newC, Dz.w_lc, Dz.w_join, Dz.w_isS, Dz.w_chain, Dz.w_eand, Dz.w_eor, Dz.w_enot, Dz.w_ltS, Dz.w_leS, Dz.w_is, Dz.w_isnot, Dz.w_inS, Dz.w_rpr, Dz.w_itS, Dz.w_itL, Dz.w_itLs, Dz.w_itT, Dz.w_add, Dz.w_sub, Dz.w_neg, Dz.w_lt, Dz.w_le, Dz.w_gt, Dz.w_ge, Dz.w_int, Dz.w_intb, Dz.w_abs, Dz.w_max, Dz.w_min, Dz.w_lenL, Dz.w_lenT, Dz.w_lenR, Dz.wp_pur, Dz.startE, Dz.w_dtup, Dz.w_dlst, Dz.asDs_nil, Dz.asDs_cons, Dz.w_some, Dz.w_kTup, Dz.w_kLst, Dz.w_addL, Dz.w_addT, Dz.w_sl, Dz.w_oNone, Dz.w_oSome, Dz.w_asI, Dz.w_slL, Dz.w_slT, Dz.w_zp, Dz.w_itZL, Dz.w_itZT, Dz.w_rg3, Dz.w_par, Dz.w_asg, Dz.w_asD, Dz.w_fld, Dz.w_sfd, Dz.w_mk, Dz.w_pro, Dz.w_isI, Dz.w_met, Dz.w_ncb, Dz.w_tupL, Dz.w_tupT, Dz.w_listL, Dz.w_listT, Dz.w_sorted, Dz.w_minI, Dz.w_itA, Dz.w_itAt, Dz.w_itAs, Dz.w_itAz, Dz.w_inT, Dz.w_inL, Dz.w_niT, Dz.w_inD, Dz.w_eqS, Dz.w_neS, Dz.w_eqI, Dz.w_neI, Dz.w_eqB, Dz.w_neB, Dz.w_eqL, Dz.w_neL, Dz.w_eqT, Dz.w_neT, Dz.dunNe_str, Dz.dunNe_bl, Dz.dunNe_int, Dz.dunNe_lst, Dz.dunNe_tup, Dz.dunNe_non, Dz.dunEq_str, Dz.dunEq_bl, Dz.dunEq_int, Dz.dunEq_lst, Dz.dunEq_tup, Dz.dunEq_non, Dz.dunIn_ins, Dz.tBoolX_ins, Dz.w_notB, Dz.w_isB, Dz.wp_bnd, Dz.w_mod, Dz.w_div, Dz.w_itR, Dz.w_itR2, Dz.w_fldD, Dz.w_cm, Dz.w_mkL, Dz.w_isC, Dz.w_fldL, Dz.w_stL, Dz.w_len, Dz.dInts_ints, Dz.ints_len, Dz.w_asgL, Dz.wipeE, Dz.setAll, List.map_cons, List.map_nil, List.length_cons, List.length_nil, List.replicate, List.cons_append, List.nil_append, List.append_nil, List.getElem?_cons_zero, List.getElem?_cons_succ, List.set_cons_zero, List.set_cons_succ, Nat.reduceAdd, Nat.reduceSub, Nat.zero_add, Nat.sub_zero, Bool.not_true, Bool.not_false, if_true, if_false, Bool.false_eq_true, reduceIte, decide_eq_true_eq, Option.map_some, Nat.reduceLeDiff, List.length_map, List.foldl_cons, List.foldl_nil, dunEq_lst, pp, im, w1, w2, and_s]))
    exact ⟨_, rfl, rfl⟩
end K03

namespace K03
open PySem PySem.Spec PyProof.Rows L2 Dz
/-! ### the head -/
def fn : List DefZ := [⟨.g "is_integer", "is_integer", "is_integer", defArgs s_is_integer, defBody s_is_integer, defScope s_is_integer⟩, ⟨.g "is_below", "is_below", "is_below", defArgs s_is_below, defBody s_is_below, defScope s_is_below⟩, ⟨.g "is_ascending", "is_ascending", "is_ascending", defArgs s_is_ascending, defBody s_is_ascending, defScope s_is_ascending⟩, ⟨.g "are_below", "are_below", "are_below", defArgs s_are_below, defBody s_are_below, defScope s_are_below⟩, ⟨.g "has_period", "has_period", "has_period", defArgs s_has_period, defBody s_has_period, defScope s_has_period⟩, ⟨.g "least_period", "least_period", "least_period", defArgs s_least_period, defBody s_least_period, defScope s_least_period⟩, ⟨.g "least_first", "least_first", "least_first", defArgs s_least_first, defBody s_least_first, defScope s_least_first⟩, ⟨.g "greatest_divisor", "greatest_divisor", "greatest_divisor", defArgs s_greatest_divisor, defBody s_greatest_divisor, defScope s_greatest_divisor⟩, ⟨.m "Limits" "__init__", "__init__", "Limits.__init__", defArgs s_Limits___init__, defBody s_Limits___init__, defScope s_Limits___init__⟩, ⟨.k "Limits" "every", "every", "Limits.every", defArgs s_Limits_every, defBody s_Limits_every, defScope s_Limits_every⟩, ⟨.k "Limits" "none", "none", "Limits.none", defArgs s_Limits_none, defBody s_Limits_none, defScope s_Limits_none⟩, ⟨.m "Limits" "is_within", "is_within", "Limits.is_within", defArgs s_Limits_is_within, defBody s_Limits_is_within, defScope s_Limits_is_within⟩, ⟨.m "Limits" "__and__", "__and__", "Limits.__and__", defArgs s_Limits___and__, defBody s_Limits___and__, defScope s_Limits___and__⟩, ⟨.m "Limits" "__or__", "__or__", "Limits.__or__", defArgs s_Limits___or__, defBody s_Limits___or__, defScope s_Limits___or__⟩, ⟨.m "Limits" "__sub__", "__sub__", "Limits.__sub__", defArgs s_Limits___sub__, defBody s_Limits___sub__, defScope s_Limits___sub__⟩, ⟨.m "Limits" "__xor__", "__xor__", "Limits.__xor__", defArgs s_Limits___xor__, defBody s_Limits___xor__, defScope s_Limits___xor__⟩, ⟨.m "Limits" "__invert__", "__invert__", "Limits.__invert__", defArgs s_Limits___invert__, defBody s_Limits___invert__, defScope s_Limits___invert__⟩, ⟨.m "Limits" "__contains__", "__contains__", "Limits.__contains__", defArgs s_Limits___contains__, defBody s_Limits___contains__, defScope s_Limits___contains__⟩, ⟨.m "Limits" "__bool__", "__bool__", "Limits.__bool__", defArgs s_Limits___bool__, defBody s_Limits___bool__, defScope s_Limits___bool__⟩, ⟨.m "Limits" "__eq__", "__eq__", "Limits.__eq__", defArgs s_Limits___eq__, defBody s_Limits___eq__, defScope s_Limits___eq__⟩, ⟨.g "begins_of", "begins_of", "begins_of", defArgs s_begins_of, defBody s_begins_of, defScope s_begins_of⟩, ⟨.g "require_limits", "require_limits", "require_limits", defArgs s_require_limits, defBody s_require_limits, defScope s_require_limits⟩, ⟨.g "has_number", "has_number", "has_number", defArgs s_has_number, defBody s_has_number, defScope s_has_number⟩, ⟨.g "joined", "joined", "joined", defArgs s_joined, defBody s_joined, defScope s_joined⟩, ⟨.g "_law_urn", "_law_urn", "_law_urn", defArgs s__law_urn, defBody s__law_urn, defScope s__law_urn⟩, ⟨.g "_law_toss", "_law_toss", "_law_toss", defArgs s__law_toss, defBody s__law_toss, defScope s__law_toss⟩, ⟨.g "_law_pick", "_law_pick", "_law_pick", defArgs s__law_pick, defBody s__law_pick, defScope s__law_pick⟩, ⟨.g "_law_drawn", "_law_drawn", "_law_drawn", defArgs s__law_drawn, defBody s__law_drawn, defScope s__law_drawn⟩, ⟨.g "_law_has", "_law_has", "_law_has", defArgs s__law_has, defBody s__law_has, defScope s__law_has⟩, ⟨.g "_law_limits", "_law_limits", "_law_limits", defArgs s__law_limits, defBody s__law_limits, defScope s__law_limits⟩, ⟨.g "_law_due", "_law_due", "_law_due", defArgs s__law_due, defBody s__law_due, defScope s__law_due⟩, ⟨.g "_law_is_by", "_law_is_by", "_law_is_by", defArgs s__law_is_by, defBody s__law_is_by, defScope s__law_is_by⟩, ⟨.g "_law_right", "_law_right", "_law_right", defArgs s__law_right, defBody s__law_right, defScope s__law_right⟩, ⟨.g "law", "law", "law", defArgs s_law, defBody s_law, defScope s_law⟩]
def fz : List Fz := [.fa (.free "abs"), .fa (.free "all"), .fa (.free "bool"), .fa (.free "int"), .fa (.free "isinstance"), .fa (.free "len"), .fa (.free "max"), .fa (.free "min"), .fa (.free "range"), .fa (.free "sorted"), .fa (.free "tuple"), .fa (.free "zip"), .con "ANY" c_ANY, .con "BOTH" c_BOTH, .con "JUST_ONE" c_JUST_ONE, .fa (.int "MAX_PERIOD" c_MAX_PERIOD), .con "ONE_ALONE" c_ONE_ALONE, .fa (.int "TOP" c_TOP), .fa (.cls "Limits"), .clsf "Limits", .cmet "Limits" "every", .cmet "Limits" "none", .cread "Limits", .dun "Limits" "__and__", .dun "Limits" "__bool__", .dun "Limits" "__contains__", .dun "Limits" "__eq__", .dun "Limits" "__invert__", .dun "Limits" "__or__", .dun "Limits" "__sub__", .dun "Limits" "__xor__", .first "Limits", .fa (.noat "Limits" "own_begins"), .fa (.noat "Limits" "own_few"), .fa (.noat "Limits" "own_first"), .fa (.noat "Limits" "own_period"), .fa (.noat "Limits" "own_rests"), .fa (.glo "_law_drawn"), .fa (.glo "_law_due"), .fa (.glo "_law_has"), .fa (.glo "_law_is_by"), .fa (.glo "_law_limits"), .fa (.glo "_law_pick"), .fa (.glo "_law_right"), .fa (.glo "_law_toss"), .fa (.glo "_law_urn"), .fa (.glo "are_below"), .fa (.glo "begins_of"), .fa (.glo "greatest_divisor"), .fa (.glo "has_number"), .fa (.glo "has_period"), .fa (.glo "is_ascending"), .fa (.glo "is_below"), .fa (.glo "is_integer"), .fa (.glo "joined"), .fa (.glo "least_first"), .fa (.glo "least_period"), .fa (.glo "require_limits"), .fa (.glo "InvalidLimits"), .fa (.glo "Limits"), .fa (.meth "Limits" "is_within"), .fa (.mkr "Limits"), .chk (msgB "InvalidLimits"), .nec "Limits", .notf "Limits" (.ow "Limits"), .notf "Limits" (.bt "dict"), .notf "Limits" (.bt "list"), .notf "Limits" (.bt "tuple"), .notf "Limits" (.bt "str"), .notf "Limits" (.bt "int"), .notf "Limits" (.bt "bool"), .notf "Limits" (.bt "NoneType"), .tab (.ow "Limits") (.bt "tuple") false, .tab (.ow "Limits") (.bt "int") false, .tab (.ow "Limits") (.bt "bool") false, .tab (.ow "Limits") (.ow "Limits") true, .tab (.bt "dict") (.ow "Limits") false, .tab (.bt "list") (.ow "Limits") false, .tab (.bt "tuple") (.ow "Limits") false, .tab (.bt "str") (.ow "Limits") false, .tab (.bt "int") (.ow "Limits") false, .tab (.bt "bool") (.ow "Limits") false, .tab (.bt "NoneType") (.ow "Limits") false, .fa (.glo "law")]
abbrev R : PySem.W.OpenRow := PySem.W.OpenLaw.row PySem.Challenge.rw_deepenough_k03_whole_set_algebra
abbrev hk : PySem.W.Hook := hookZ 6 fz fn
def ob (s : PySem.W.SharedT) : AlZ := obsZG 6 fz fn (HandSHeadRun.getT s)
theorem ob_eq (s : PySem.W.SharedT) : ob s = hk.obs s.abs := obsZG_eq (HandSHeadRun.getT_eq s)
def loose : List Str := [("_wall" : Str), ("DepthError" : Str), ("InvalidLimits" : Str), ("InvalidNumber" : Str), ("TooMany" : Str), ("TOP" : Str), ("is_integer" : Str), ("is_below" : Str), ("is_ascending" : Str), ("are_below" : Str), ("MAX_PERIOD" : Str), ("MAX_MEMBERS" : Str), ("BOTH" : Str), ("ANY" : Str), ("ONE_ALONE" : Str), ("JUST_ONE" : Str), ("has_period" : Str), ("least_period" : Str), ("least_first" : Str), ("greatest_divisor" : Str), ("Limits" : Str), ("begins_of" : Str), ("require_limits" : Str), ("has_number" : Str), ("joined" : Str), ("_law_urn" : Str), ("_law_toss" : Str), ("_law_pick" : Str), ("_law_drawn" : Str), ("_law_has" : Str), ("_law_limits" : Str), ("_law_due" : Str), ("_law_is_by" : Str), ("_law_right" : Str)]
set_option maxHeartbeats 0 in
theorem run (w : World) : HandSHeadRun.RunEq R (PySem.W.view R.prog [38]) hk ob 4000 loose w := by
  intro os
  kernel_rfl
theorem facts {P : Program} {w : World} {K : Frag} {h : Heap} {mg : Str → Option Value} {f : Addr} (X : K.In h) (G : h.Ns mainGlobals mg) (hfa : mg ("law" : Str) = some (.ref f)) (c : SaysZ fz fn K) :
    ∀ base : Heap, K.In base → base.Ns mainGlobals mg → FnG P w K mg base (CX P w) 9 1 f (spM K 1 f_law) := by
  obtain ⟨fd_is_integer, F_is_integer⟩ := c.def_ 0 rfl
  obtain ⟨fd_is_below, F_is_below⟩ := c.def_ 1 rfl
  obtain ⟨fd_is_ascending, F_is_ascending⟩ := c.def_ 2 rfl
  obtain ⟨fd_are_below, F_are_below⟩ := c.def_ 3 rfl
  obtain ⟨fd_has_period, F_has_period⟩ := c.def_ 4 rfl
  obtain ⟨fd_least_period, F_least_period⟩ := c.def_ 5 rfl
  obtain ⟨fd_least_first, F_least_first⟩ := c.def_ 6 rfl
  obtain ⟨fd_greatest_divisor, F_greatest_divisor⟩ := c.def_ 7 rfl
  obtain ⟨fd_Limits___init__, F_Limits___init__⟩ := c.def_ 8 rfl
  obtain ⟨fd_Limits_every, F_Limits_every⟩ := c.def_ 9 rfl
  obtain ⟨fd_Limits_none, F_Limits_none⟩ := c.def_ 10 rfl
  obtain ⟨fd_Limits_is_within, F_Limits_is_within⟩ := c.def_ 11 rfl
  obtain ⟨fd_Limits___and__, F_Limits___and__⟩ := c.def_ 12 rfl
  obtain ⟨fd_Limits___or__, F_Limits___or__⟩ := c.def_ 13 rfl
  obtain ⟨fd_Limits___sub__, F_Limits___sub__⟩ := c.def_ 14 rfl
  obtain ⟨fd_Limits___xor__, F_Limits___xor__⟩ := c.def_ 15 rfl
  obtain ⟨fd_Limits___invert__, F_Limits___invert__⟩ := c.def_ 16 rfl
  obtain ⟨fd_Limits___contains__, F_Limits___contains__⟩ := c.def_ 17 rfl
  obtain ⟨fd_Limits___bool__, F_Limits___bool__⟩ := c.def_ 18 rfl
  obtain ⟨fd_Limits___eq__, F_Limits___eq__⟩ := c.def_ 19 rfl
  obtain ⟨fd_begins_of, F_begins_of⟩ := c.def_ 20 rfl
  obtain ⟨fd_require_limits, F_require_limits⟩ := c.def_ 21 rfl
  obtain ⟨fd_has_number, F_has_number⟩ := c.def_ 22 rfl
  obtain ⟨fd_joined, F_joined⟩ := c.def_ 23 rfl
  obtain ⟨fd__law_urn, F__law_urn⟩ := c.def_ 24 rfl
  obtain ⟨fd__law_toss, F__law_toss⟩ := c.def_ 25 rfl
  obtain ⟨fd__law_pick, F__law_pick⟩ := c.def_ 26 rfl
  obtain ⟨fd__law_drawn, F__law_drawn⟩ := c.def_ 27 rfl
  obtain ⟨fd__law_has, F__law_has⟩ := c.def_ 28 rfl
  obtain ⟨fd__law_limits, F__law_limits⟩ := c.def_ 29 rfl
  obtain ⟨fd__law_due, F__law_due⟩ := c.def_ 30 rfl
  obtain ⟨fd__law_is_by, F__law_is_by⟩ := c.def_ 31 rfl
  obtain ⟨fd__law_right, F__law_right⟩ := c.def_ 32 rfl
  obtain ⟨fd_law, F_law⟩ := c.def_ 33 rfl
  have T : Txt0 K mg := ⟨He.free_ok X G (c.fact 0 (f := .fa (.free "abs")) rfl), He.free_ok X G (c.fact 1 (f := .fa (.free "all")) rfl), He.free_ok X G (c.fact 2 (f := .fa (.free "bool")) rfl), He.free_ok X G (c.fact 3 (f := .fa (.free "int")) rfl), He.free_ok X G (c.fact 4 (f := .fa (.free "isinstance")) rfl), He.free_ok X G (c.fact 5 (f := .fa (.free "len")) rfl), He.free_ok X G (c.fact 6 (f := .fa (.free "max")) rfl), He.free_ok X G (c.fact 7 (f := .fa (.free "min")) rfl), He.free_ok X G (c.fact 8 (f := .fa (.free "range")) rfl), He.free_ok X G (c.fact 9 (f := .fa (.free "sorted")) rfl), He.free_ok X G (c.fact 10 (f := .fa (.free "tuple")) rfl), He.free_ok X G (c.fact 11 (f := .fa (.free "zip")) rfl), con_ok X G (c.fact 12 (f := .con "ANY" c_ANY) rfl), con_ok X G (c.fact 13 (f := .con "BOTH" c_BOTH) rfl), con_ok X G (c.fact 14 (f := .con "JUST_ONE" c_JUST_ONE) rfl), He.int_ok X G (c.fact 15 (f := .fa (.int "MAX_PERIOD" c_MAX_PERIOD)) rfl), con_ok X G (c.fact 16 (f := .con "ONE_ALONE" c_ONE_ALONE) rfl), He.int_ok X G (c.fact 17 (f := .fa (.int "TOP" c_TOP)) rfl), all_cons (clsf_ok (cls_ok (c.fact 18 (f := .fa (.cls "Limits")) rfl)) (c.fact 19 (f := .clsf "Limits") rfl)) (all_nil), cls_ok (c.fact 18 (f := .fa (.cls "Limits")) rfl), cmet_ok (c.fact 20 (f := .cmet "Limits" "every") rfl), cmet_ok (c.fact 21 (f := .cmet "Limits" "none") rfl), cread_ok (c.fact 22 (f := .cread "Limits") rfl), dun_ok (c.fact 23 (f := .dun "Limits" "__and__") rfl), dun_ok (c.fact 24 (f := .dun "Limits" "__bool__") rfl), dun_ok (c.fact 25 (f := .dun "Limits" "__contains__") rfl), dun_ok (c.fact 26 (f := .dun "Limits" "__eq__") rfl), dun_ok (c.fact 27 (f := .dun "Limits" "__invert__") rfl), dun_ok (c.fact 28 (f := .dun "Limits" "__or__") rfl), dun_ok (c.fact 29 (f := .dun "Limits" "__sub__") rfl), dun_ok (c.fact 30 (f := .dun "Limits" "__xor__") rfl), first_ok (c.fact 31 (f := .first "Limits") rfl), ⟨cls_ok (c.fact 18 (f := .fa (.cls "Limits")) rfl), noat_ok (c.fact 32 (f := .fa (.noat "Limits" "own_begins")) rfl)⟩, ⟨cls_ok (c.fact 18 (f := .fa (.cls "Limits")) rfl), noat_ok (c.fact 33 (f := .fa (.noat "Limits" "own_few")) rfl)⟩, ⟨cls_ok (c.fact 18 (f := .fa (.cls "Limits")) rfl), noat_ok (c.fact 34 (f := .fa (.noat "Limits" "own_first")) rfl)⟩, ⟨cls_ok (c.fact 18 (f := .fa (.cls "Limits")) rfl), noat_ok (c.fact 35 (f := .fa (.noat "Limits" "own_period")) rfl)⟩, ⟨cls_ok (c.fact 18 (f := .fa (.cls "Limits")) rfl), noat_ok (c.fact 36 (f := .fa (.noat "Limits" "own_rests")) rfl)⟩, He.glo_ok X G (c.fact 37 (f := .fa (.glo "_law_drawn")) rfl), He.glo_ok X G (c.fact 38 (f := .fa (.glo "_law_due")) rfl), He.glo_ok X G (c.fact 39 (f := .fa (.glo "_law_has")) rfl), He.glo_ok X G (c.fact 40 (f := .fa (.glo "_law_is_by")) rfl), He.glo_ok X G (c.fact 41 (f := .fa (.glo "_law_limits")) rfl), He.glo_ok X G (c.fact 42 (f := .fa (.glo "_law_pick")) rfl), He.glo_ok X G (c.fact 43 (f := .fa (.glo "_law_right")) rfl), He.glo_ok X G (c.fact 44 (f := .fa (.glo "_law_toss")) rfl), He.glo_ok X G (c.fact 45 (f := .fa (.glo "_law_urn")) rfl), He.glo_ok X G (c.fact 46 (f := .fa (.glo "are_below")) rfl), He.glo_ok X G (c.fact 47 (f := .fa (.glo "begins_of")) rfl), He.glo_ok X G (c.fact 48 (f := .fa (.glo "greatest_divisor")) rfl), He.glo_ok X G (c.fact 49 (f := .fa (.glo "has_number")) rfl), He.glo_ok X G (c.fact 50 (f := .fa (.glo "has_period")) rfl), He.glo_ok X G (c.fact 51 (f := .fa (.glo "is_ascending")) rfl), He.glo_ok X G (c.fact 52 (f := .fa (.glo "is_below")) rfl), He.glo_ok X G (c.fact 53 (f := .fa (.glo "is_integer")) rfl), He.glo_ok X G (c.fact 54 (f := .fa (.glo "joined")) rfl), He.glo_ok X G (c.fact 55 (f := .fa (.glo "least_first")) rfl), He.glo_ok X G (c.fact 56 (f := .fa (.glo "least_period")) rfl), He.glo_ok X G (c.fact 57 (f := .fa (.glo "require_limits")) rfl), He.glo_ok X G (c.fact 58 (f := .fa (.glo "InvalidLimits")) rfl), He.glo_ok X G (c.fact 59 (f := .fa (.glo "Limits")) rfl), F__law_drawn.kp, F__law_due.kp, F__law_has.kp, F__law_is_by.kp, F__law_limits.kp, F__law_pick.kp, F__law_right.kp, F__law_toss.kp, F__law_urn.kp, F_are_below.kp, F_begins_of.kp, F_greatest_divisor.kp, F_has_number.kp, F_has_period.kp, F_is_ascending.kp, F_is_below.kp, F_is_integer.kp, F_joined.kp, F_least_first.kp, F_least_period.kp, F_require_limits.kp, meth_ok (c.fact 60 (f := .fa (.meth "Limits" "is_within")) rfl), mkr_ok (c.fact 61 (f := .fa (.mkr "Limits")) rfl), msgX_ok (c.fact 62 (f := .chk (msgB "InvalidLimits")) rfl), nec_ok (c.fact 63 (f := .nec "Limits") rfl), all_cons (notf_ok (c.fact 71 (f := .notf "Limits" (.bt "NoneType")) rfl)) (all_cons (notf_ok (c.fact 70 (f := .notf "Limits" (.bt "bool")) rfl)) (all_cons (notf_ok (c.fact 69 (f := .notf "Limits" (.bt "int")) rfl)) (all_cons (notf_ok (c.fact 68 (f := .notf "Limits" (.bt "str")) rfl)) (all_cons (notf_ok (c.fact 67 (f := .notf "Limits" (.bt "tuple")) rfl)) (all_cons (notf_ok (c.fact 66 (f := .notf "Limits" (.bt "list")) rfl)) (all_cons (notf_ok (c.fact 65 (f := .notf "Limits" (.bt "dict")) rfl)) (all_cons (notf_ok (c.fact 64 (f := .notf "Limits" (.ow "Limits")) rfl)) (all_nil)))))))), all_cons (tab_ok (c.fact 82 (f := .tab (.bt "NoneType") (.ow "Limits") false) rfl)) (all_cons (tab_ok (c.fact 81 (f := .tab (.bt "bool") (.ow "Limits") false) rfl)) (all_cons (tab_ok (c.fact 80 (f := .tab (.bt "int") (.ow "Limits") false) rfl)) (all_cons (tab_ok (c.fact 79 (f := .tab (.bt "str") (.ow "Limits") false) rfl)) (all_cons (tab_ok (c.fact 78 (f := .tab (.bt "tuple") (.ow "Limits") false) rfl)) (all_cons (tab_ok (c.fact 77 (f := .tab (.bt "list") (.ow "Limits") false) rfl)) (all_cons (tab_ok (c.fact 76 (f := .tab (.bt "dict") (.ow "Limits") false) rfl)) (all_cons (tab_ok (c.fact 75 (f := .tab (.ow "Limits") (.ow "Limits") true) rfl)) (all_cons (tab_ok (c.fact 74 (f := .tab (.ow "Limits") (.bt "bool") false) rfl)) (all_cons (tab_ok (c.fact 73 (f := .tab (.ow "Limits") (.bt "int") false) rfl)) (all_cons (tab_ok (c.fact 72 (f := .tab (.ow "Limits") (.bt "tuple") false) rfl)) (all_nil))))))))))), ⟨_, F_is_integer⟩, ⟨_, F_is_below⟩, ⟨_, F_is_ascending⟩, ⟨_, F_are_below⟩, ⟨_, F_has_period⟩, ⟨_, F_least_period⟩, ⟨_, F_least_first⟩, ⟨_, F_greatest_divisor⟩, ⟨_, F_Limits___init__⟩, ⟨_, F_Limits_every⟩, ⟨_, F_Limits_none⟩, ⟨_, F_Limits_is_within⟩, ⟨_, F_Limits___and__⟩, ⟨_, F_Limits___or__⟩, ⟨_, F_Limits___sub__⟩, ⟨_, F_Limits___xor__⟩, ⟨_, F_Limits___invert__⟩, ⟨_, F_Limits___contains__⟩, ⟨_, F_Limits___bool__⟩, ⟨_, F_Limits___eq__⟩, ⟨_, F_begins_of⟩, ⟨_, F_require_limits⟩, ⟨_, F_has_number⟩, ⟨_, F_joined⟩, ⟨_, F__law_urn⟩, ⟨_, F__law_toss⟩, ⟨_, F__law_pick⟩, ⟨_, F__law_drawn⟩, ⟨_, F__law_has⟩, ⟨_, F__law_limits⟩, ⟨_, F__law_due⟩, ⟨_, F__law_is_by⟩, ⟨_, F__law_right⟩, ⟨_, F_law⟩⟩
  have D_is_integer := ok_is_integer (P := P) (w := w) T
  have D_is_ascending := ok_is_ascending (P := P) (w := w) T
  have D_has_period := ok_has_period (P := P) (w := w) T
  have D_least_first := ok_least_first (P := P) (w := w) T
  have D_greatest_divisor := ok_greatest_divisor (P := P) (w := w) T
  have D_Limits___bool__ := ok_Limits___bool__ (P := P) (w := w) T
  have D_Limits___eq__ := ok_Limits___eq__ (P := P) (w := w) T
  have D_begins_of := ok_begins_of (P := P) (w := w) T
  have D_require_limits := ok_require_limits (P := P) (w := w) T
  have D_has_number := ok_has_number (P := P) (w := w) T
  have D__law_urn := ok__law_urn (P := P) (w := w) T
  have D__law_toss := ok__law_toss (P := P) (w := w) T
  have D__law_has := ok__law_has (P := P) (w := w) T
  have D__law_due := ok__law_due (P := P) (w := w) T
  have D_is_below := ok_is_below (P := P) (w := w) T D_is_integer
  have D_least_period := ok_least_period (P := P) (w := w) T D_has_period
  have D_Limits___contains__ := ok_Limits___contains__ (P := P) (w := w) T D_is_integer D_has_number
  have D__law_pick := ok__law_pick (P := P) (w := w) T D__law_toss
  have D_are_below := ok_are_below (P := P) (w := w) T D_is_ascending D_is_below
  have D__law_drawn := ok__law_drawn (P := P) (w := w) T D__law_toss D__law_pick
  have D__law_is_by := ok__law_is_by (P := P) (w := w) T D_Limits___eq__ D__law_has D__law_due D_Limits___contains__
  have D_Limits___init__ := ok_Limits___init__ (P := P) (w := w) T D_least_first D_begins_of D_is_below D_least_period D_are_below
  have D_Limits_every := ok_Limits_every (P := P) (w := w) T D_Limits___init__
  have D_Limits_none := ok_Limits_none (P := P) (w := w) T D_Limits___init__
  have D_Limits___invert__ := ok_Limits___invert__ (P := P) (w := w) T D_Limits___init__
  have D_joined := ok_joined (P := P) (w := w) T D_greatest_divisor D_require_limits D_has_number D_Limits___init__
  have D__law_limits := ok__law_limits (P := P) (w := w) T D_Limits___init__
  have D_Limits_is_within := ok_Limits_is_within (P := P) (w := w) T D_Limits___bool__ D_joined
  have D_Limits___and__ := ok_Limits___and__ (P := P) (w := w) T D_joined
  have D_Limits___or__ := ok_Limits___or__ (P := P) (w := w) T D_joined
  have D_Limits___sub__ := ok_Limits___sub__ (P := P) (w := w) T D_joined
  have D_Limits___xor__ := ok_Limits___xor__ (P := P) (w := w) T D_joined
  have D__law_right := ok__law_right (P := P) (w := w) T D_Limits___bool__ D_Limits___eq__ D__law_has D_Limits___contains__ D__law_drawn D__law_is_by D_Limits_every D_Limits_none D_Limits___invert__ D__law_limits D_Limits_is_within D_Limits___and__ D_Limits___or__ D_Limits___sub__ D_Limits___xor__
  have D_law := ok_law (P := P) (w := w) T D_Limits___eq__ D__law_urn D_Limits___init__ D_Limits___invert__ D_Limits_is_within D_Limits___and__ D_Limits___or__ D_Limits___sub__ D_Limits___xor__ D__law_right
  have e := hfa.symm.trans (He.glo_ok X G (c.fact 83 (f := .fa (.glo "law")) rfl))
  cases e
  exact fun base _ _ => D_law base

end K03
open PySem PySem.W PySem.Calls PyProof.Rows
set_option maxHeartbeats 0 in
set_option maxRecDepth 100000 in
theorem PySem.Challenge.cw_deepenough_k03_whole_set_algebra_holds : PySem.Challenge.rw_deepenough_k03_whole_set_algebra.Holds := by
  w_on; o_law
  refine HandSHeadRun.head_any (r := OpenLaw.row PySem.Challenge.rw_deepenough_k03_whole_set_algebra) (q := view (OpenLaw.row PySem.Challenge.rw_deepenough_k03_whole_set_algebra).prog [38]) (H := K03.hk) (ob := K03.ob) (M := 4000) (loose := K03.loose) (d := HandSHeadRun.topDef (OpenLaw.row PySem.Challenge.rw_deepenough_k03_whole_set_algebra).prog 38) (kwd := []) K03.ob_eq
    (by kernel_rfl) (fun s => by kernel_rfl) K03.run (by kernel_rfl) (by kernel_rfl) (by kernel_rfl) (by rfl) (by first | assumption | decide +kernel) (by decide +kernel) ⟨rfl, rfl, rfl, rfl, rfl, by decide +kernel⟩ ?hw ?hc
  case hw => w_witness2
  case hc =>
    refine Dz.walk_ofG (l := PySem.Challenge.rw_deepenough_k03_whole_set_algebra) (n := 63) (k := 9) (CX := fun w => L2.CX (PySem.Challenge.rw_deepenough_k03_whole_set_algebra).prog w) rfl (by decide) (by kernel_rfl) ⟨⟨rfl, by decide, by decide⟩, rfl⟩ ?F (fun _ _ _ _ _ ⟨_, _, _, _, _, _, _, _, _, _, _, _, z⟩ => z)
    intro w mg fa h Y G hmg0
    obtain ⟨K, KX, c⟩ := Y
    have hmg : mg ("law" : PySem.Str) = some (.ref fa) := by
      have e : (HandSHeadRun.topDef (OpenLaw.row PySem.Challenge.rw_deepenough_k03_whole_set_algebra).prog 38).name = ("law" : PySem.Str) := by kernel_rfl
      rw [← e]
      exact hmg0
    refine ⟨K, Dz.spM K 1 K03.f_law, KX, fun H a ns hl _ hS => ?_, K03.facts (P := (PySem.Challenge.rw_deepenough_k03_whole_set_algebra).prog) (w := w) KX G hmg c⟩
    exact Dz.law_end hS (K03.law_true ns hl)

