import PyProof.Rows.All
import Wide.All
import OpenK.AllK
import Wide.FinOn
import HandS.ForMost
import HandS.ForExc
import HandS.IsInst
import HandS.Flow
import HandS.TupAny
import HandS.Defaults
import HandS.RaiseMore
import HandS.Head0
import HandS.Head1
import HandS.Head2
import HandS.HeadEnd
import HandS.HeadHook1
import HandS.HeadHook2
import PySem.Challenge.RW_deepenough_k01_names_and_limits
set_option Elab.async false
set_option linter.all false
set_option maxRecDepth 100000
set_option maxHeartbeats 4000000
/-! Dz: a layer of data over HandS. A def's meaning is a plain function over data (D), values (Vl: data or a cell) and a store of mutable cells. -/
namespace Dz
open PySem PySem.Spec PyProof.Rows L2
abbrev Frag := PySem.W.Frag

/-! ### data -/
inductive D where
  | non | bl (b : Bool) | int (i : Int) | str (x : Str) | ty (n : String)
  | tup (xs : List D) | lst (xs : List D) | scr (ns : List Int) | dct (kvs : List (Key × D))
  deriving Inhabited
inductive Vl where
  | d (x : D) | c (n : Nat)
  deriving Inhabited
/-- a mutable cell's content -/
inductive Ob where
  | lst (xs : List D)
  deriving Inhabited

mutual
inductive Rep (K : Frag) (F : Hp) : D → V → Prop
  | non : Rep K F .non .non
  | bl (b : Bool) : Rep K F (.bl b) (.bl b)
  | int (i : Int) : Rep K F (.int i) (.int i)
  | str (x : Str) : Rep K F (.str x) (.str x)
  | ty (n : String) : Rep K F (.ty n) (.ty n)
  | tup {a : Addr} {vs : List V} {ds : List D} : SqT K F a vs → Reps K F ds vs → Rep K F (.tup ds) (.ref a)
  | lst {a : Addr} {vs : List V} {ds : List D} : F a = some (.lst vs) → Reps K F ds vs → Rep K F (.lst ds) (.ref a)
  | scr {a : Addr} {ns : List Int} : SqL K F a (ns.map V.int) → Rep K F (.scr ns) (.ref a)
  | dct {a : Addr} {kvs : List (Key × D)} {vs : List (Key × V)} : F a = some (.dK vs) → RepK K F kvs vs → Rep K F (.dct kvs) (.ref a)
inductive Reps (K : Frag) (F : Hp) : List D → List V → Prop
  | nil : Reps K F [] []
  | cons {d : D} {v : V} {ds : List D} {vs : List V} : Rep K F d v → Reps K F ds vs → Reps K F (d :: ds) (v :: vs)
inductive RepK (K : Frag) (F : Hp) : List (Key × D) → List (Key × V) → Prop
  | nil : RepK K F [] []
  | cons {k : Key} {d : D} {v : V} {ds : List (Key × D)} {vs : List (Key × V)} : Rep K F d v → RepK K F ds vs → RepK K F ((k, d) :: ds) ((k, v) :: vs)
end
theorem sqT_mono {K : Frag} {F F' : Hp} {a : Addr} {xs : List V} (e : Same F F') (h : SqT K F a xs) : SqT K F' a xs := by
  rcases h with (h | ⟨o, h⟩) | h
  · exact .inl (.inl (e _ _ h))
  · exact .inl (.inr ⟨o, e _ _ h⟩)
  · exact .inr h
section
variable {K : Frag} {F F' : Hp} (e : Same F F')
include e
mutual
theorem Rep.mono : ∀ {d : D} {v : V}, Rep K F d v → Rep K F' d v
  | _, _, .non => .non
  | _, _, .bl b => .bl b
  | _, _, .int b => .int b
  | _, _, .str b => .str b
  | _, _, .ty b => .ty b
  | _, _, .tup h r => .tup (sqT_mono e h) (Reps.mono r)
  | _, _, .lst h r => .lst (e _ _ h) (Reps.mono r)
  | _, _, .scr h => .scr (e.seq h)
  | _, _, .dct h r => .dct (e _ _ h) (RepK.mono r)
theorem Reps.mono : ∀ {ds : List D} {vs : List V}, Reps K F ds vs → Reps K F' ds vs
  | _, _, .nil => .nil
  | _, _, .cons h r => .cons (Rep.mono h) (Reps.mono r)
theorem RepK.mono : ∀ {ds : List (Key × D)} {vs : List (Key × V)}, RepK K F ds vs → RepK K F' ds vs
  | _, _, .nil => .nil
  | _, _, .cons h r => .cons (Rep.mono h) (RepK.mono r)
end
end
section
variable {K : Frag} {F : Hp}
theorem Reps.length : ∀ {ds : List D} {vs : List V}, Reps K F ds vs → ds.length = vs.length
  | _, _, .nil => rfl
  | _, _, .cons _ r => congrArg (· + 1) r.length
theorem Reps.get : ∀ {ds : List D} {vs : List V} {i : Nat} {d : D}, Reps K F ds vs → ds[i]? = some d → ∃ v, vs[i]? = some v ∧ Rep K F d v
  | _, _, _, _, .nil, h => by simp at h
  | _, _, 0, _, .cons r _, h => by simp at h; subst h; exact ⟨_, rfl, r⟩
  | _, _, i + 1, _, .cons _ r, h => by
    obtain ⟨v, h1, h2⟩ := Reps.get (i := i) r (by simpa using h)
    exact ⟨v, by simpa using h1, h2⟩
theorem Reps.get' : ∀ {ds : List D} {vs : List V} {i : Nat} {v : V}, Reps K F ds vs → vs[i]? = some v → ∃ d, ds[i]? = some d ∧ Rep K F d v
  | _, _, _, _, .nil, h => by simp at h
  | _, _, 0, _, .cons r _, h => by simp at h; subst h; exact ⟨_, rfl, r⟩
  | _, _, i + 1, _, .cons _ r, h => by
    obtain ⟨v, h1, h2⟩ := Reps.get' (i := i) r (by simpa using h)
    exact ⟨v, by simpa using h1, h2⟩
theorem Reps.append : ∀ {ds es : List D} {vs us : List V}, Reps K F ds vs → Reps K F es us → Reps K F (ds ++ es) (vs ++ us)
  | _, _, _, _, .nil, r => r
  | _, _, _, _, .cons h t, r => .cons h (t.append r)
theorem Reps.set {d : D} {v : V} (h : Rep K F d v) : ∀ {ds : List D} {vs : List V} (i : Nat), Reps K F ds vs → Reps K F (ds.set i d) (vs.set i v)
  | _, _, _, .nil => .nil
  | _, _, 0, .cons _ t => .cons h t
  | _, _, i + 1, .cons q t => .cons q (Reps.set h i t)
theorem Reps.take : ∀ {ds : List D} {vs : List V} (n : Nat), Reps K F ds vs → Reps K F (ds.take n) (vs.take n)
  | _, _, 0, _ => .nil
  | _, _, _ + 1, .nil => .nil
  | _, _, n + 1, .cons r t => .cons r (Reps.take n t)
theorem Reps.drop : ∀ {ds : List D} {vs : List V} (n : Nat), Reps K F ds vs → Reps K F (ds.drop n) (vs.drop n)
  | _, _, 0, r => r
  | _, _, _ + 1, .nil => .nil
  | _, _, n + 1, .cons _ t => Reps.drop n t
theorem reps_ints (F : Hp) (K : Frag) : ∀ ns : List Int, Reps K F (ns.map D.int) (ns.map V.int)
  | [] => .nil
  | n :: ns => .cons (.int n) (reps_ints F K ns)
end

/-! ### the store and the heap -/
abbrev Sto := List Ob
inductive ObRep (K : Frag) (F : Hp) : Ob → HO → Prop
  | lst {ds : List D} {vs : List V} : Reps K F ds vs → ObRep K F (.lst ds) (.lst vs)
theorem ObRep.mono {K : Frag} {F F' : Hp} (e : Same F F') {b : Ob} {o : HO} (h : ObRep K F b o) : ObRep K F' b o := by
  cases h with
  | lst r => exact .lst (r.mono e)
/-- F: frozen; m: the cells' places; G: a frame that is left as it is; S: the store -/
structure Wd (K : Frag) (F : Hp) (m : List Addr) (G : Hp) (S : Sto) (H : Hp) : Prop where
  sub : Same F H
  gsub : Same G H
  gF : ∀ (a : Addr) (o : HO), G a = some o → F a = none
  gm : ∀ (n : Nat) (a : Addr), m[n]? = some a → G a = none
  len : m.length = S.length
  cells : ∀ (n : Nat) (a : Addr) (b : Ob), m[n]? = some a → S[n]? = some b → ∃ o, H a = some o ∧ ObRep K F b o
  off : ∀ (n : Nat) (a : Addr), m[n]? = some a → F a = none
  inj : ∀ (n k : Nat) (a : Addr), m[n]? = some a → m[k]? = some a → n = k
def RepV (K : Frag) (F : Hp) (m : List Addr) : Vl → V → Prop
  | .d x, v => Rep K F x v
  | .c n, v => ∃ a, m[n]? = some a ∧ v = .ref a
inductive RepVs (K : Frag) (F : Hp) (m : List Addr) : List Vl → List V → Prop
  | nil : RepVs K F m [] []
  | cons {x : Vl} {v : V} {xs : List Vl} {vs : List V} : RepV K F m x v → RepVs K F m xs vs → RepVs K F m (x :: xs) (v :: vs)
/-- what may come: more frozen, more cells -/
structure Ext (F F' : Hp) (m m' : List Addr) : Prop where
  fro : Same F F'
  pre : m <+: m'
theorem Ext.refl (F : Hp) (m : List Addr) : Ext F F m m := ⟨Same.refl F, List.prefix_refl m⟩
theorem Ext.trans {F F1 F2 : Hp} {m m1 m2 : List Addr} (a : Ext F F1 m m1) (b : Ext F1 F2 m1 m2) : Ext F F2 m m2 := ⟨a.fro.trans b.fro, a.pre.trans b.pre⟩
theorem Ext.at {F F' : Hp} {m m' : List Addr} (e : Ext F F' m m') {n : Nat} {a : Addr} (h : m[n]? = some a) : m'[n]? = some a := by
  obtain ⟨t, rfl⟩ := e.pre
  have hn : n < m.length := (List.getElem?_eq_some_iff.mp h).1
  rw [List.getElem?_append_left hn]
  exact h
theorem RepV.mono {K : Frag} {F F' : Hp} {m m' : List Addr} (e : Ext F F' m m') {x : Vl} {v : V} (h : RepV K F m x v) : RepV K F' m' x v := by
  cases x with
  | d x => exact Rep.mono e.fro h
  | c n =>
    obtain ⟨a, h1, h2⟩ := h
    exact ⟨a, e.at h1, h2⟩
theorem RepVs.mono {K : Frag} {F F' : Hp} {m m' : List Addr} (e : Ext F F' m m') : ∀ {xs : List Vl} {vs : List V}, RepVs K F m xs vs → RepVs K F' m' xs vs
  | _, _, .nil => .nil
  | _, _, .cons h r => .cons (h.mono e) (RepVs.mono e r)
theorem RepVs.length {K : Frag} {F : Hp} {m : List Addr} : ∀ {xs : List Vl} {vs : List V}, RepVs K F m xs vs → xs.length = vs.length
  | _, _, .nil => rfl
  | _, _, .cons _ r => congrArg (· + 1) r.length
section
variable {K : Frag} {F G H : Hp} {m : List Addr} {S : Sto}
theorem Wd.ne (w : Wd K F m G S H) {p : Addr} (hp : H p = none) {n : Nat} {a : Addr} (h : m[n]? = some a) : a ≠ p := by
  have hn : n < m.length := (List.getElem?_eq_some_iff.mp h).1
  have hs : n < S.length := by rw [← w.len]; exact hn
  obtain ⟨o, ho, _⟩ := w.cells n a _ h (List.getElem?_eq_getElem hs)
  exact ne_of_none ho hp
theorem Wd.fresh (w : Wd K F m G S H) {p : Addr} (hp : H p = none) : F p = none := by
  cases q : F p with
  | none => rfl
  | some o => rw [w.sub _ _ q] at hp; cases hp
theorem Wd.gfresh (w : Wd K F m G S H) {p : Addr} (hp : H p = none) : G p = none := by
  cases q : G p with
  | none => rfl
  | some o => rw [w.gsub _ _ q] at hp; cases hp
theorem same_upd {F : Hp} {p : Addr} {o : HO} (h : F p = none) : Same F (upd F p o) := fun b x e => by
  rw [upd_ne (ne_of_none e h)]; exact e
/-- a frozen object is laid -/
theorem Wd.lay (w : Wd K F m G S H) {p : Addr} (hp : H p = none) (o : HO) : Wd K (upd F p o) m G S (upd H p o) where
  sub := fun b x e => by
    by_cases hb : b = p
    · subst hb; rw [upd_same] at e ⊢; exact e
    · rw [upd_ne hb] at e ⊢; exact w.sub b x e
  gsub := fun b x e => by rw [upd_ne (ne_of_none e (w.gfresh hp))]; exact w.gsub b x e
  gF := fun b x e => by rw [upd_ne (ne_of_none e (w.gfresh hp))]; exact w.gF b x e
  gm := w.gm
  len := w.len
  cells := fun n a b h1 h2 => by
    obtain ⟨x, hx, r⟩ := w.cells n a b h1 h2
    exact ⟨x, by rw [upd_ne (w.ne hp h1)]; exact hx, r.mono (same_upd (w.fresh hp))⟩
  off := fun n a h => by rw [upd_ne (w.ne hp h)]; exact w.off n a h
  inj := w.inj
theorem Ext.lay {F : Hp} {m : List Addr} {p : Addr} {o : HO} (h : F p = none) : Ext F (upd F p o) m m := ⟨same_upd h, List.prefix_refl m⟩
/-- a cell is laid -/
theorem Wd.cell (w : Wd K F m G S H) {p : Addr} (hp : H p = none) {b : Ob} {o : HO} (r : ObRep K F b o) : Wd K F (m ++ [p]) G (S ++ [b]) (upd H p o) where
  sub := fun c x e => by rw [upd_ne (ne_of_none e (w.fresh hp))]; exact w.sub c x e
  gsub := fun c x e => by rw [upd_ne (ne_of_none e (w.gfresh hp))]; exact w.gsub c x e
  gF := w.gF
  gm := fun n a h1 => by
    by_cases hn : n < m.length
    · rw [List.getElem?_append_left hn] at h1
      exact w.gm n a h1
    · rw [List.getElem?_append_right (by omega)] at h1
      have hz : n - m.length = 0 := by
        have := (List.getElem?_eq_some_iff.mp h1).1
        simp at this; omega
      rw [hz] at h1
      simp at h1
      subst h1
      exact w.gfresh hp
  len := by rw [List.length_append, List.length_append, w.len]; rfl
  cells := fun n a c h1 h2 => by
    by_cases hn : n < m.length
    · rw [List.getElem?_append_left hn] at h1
      rw [List.getElem?_append_left (by rw [← w.len]; exact hn)] at h2
      obtain ⟨x, hx, r⟩ := w.cells n a c h1 h2
      exact ⟨x, by rw [upd_ne (w.ne hp h1)]; exact hx, r⟩
    · rw [List.getElem?_append_right (by omega)] at h1
      rw [List.getElem?_append_right (by rw [← w.len]; omega)] at h2
      have hz : n - m.length = 0 := by
        have := (List.getElem?_eq_some_iff.mp h1).1
        simp at this; omega
      rw [hz] at h1
      rw [← w.len, hz] at h2
      simp at h1 h2
      subst h1 h2
      exact ⟨o, upd_same, r⟩
  off := fun n a h1 => by
    by_cases hn : n < m.length
    · rw [List.getElem?_append_left hn] at h1
      exact w.off n a h1
    · rw [List.getElem?_append_right (by omega)] at h1
      have hz : n - m.length = 0 := by
        have := (List.getElem?_eq_some_iff.mp h1).1
        simp at this; omega
      rw [hz] at h1
      simp at h1
      subst h1
      exact w.fresh hp
  inj := fun n k a h1 h2 => by
    have key : ∀ (j : Nat), (m ++ [p])[j]? = some a → (j < m.length ∧ m[j]? = some a) ∨ (j = m.length ∧ a = p) := fun j h => by
      by_cases hn : j < m.length
      · rw [List.getElem?_append_left hn] at h
        exact .inl ⟨hn, h⟩
      · rw [List.getElem?_append_right (by omega)] at h
        have hz : j - m.length = 0 := by
          have := (List.getElem?_eq_some_iff.mp h).1
          simp at this; omega
        rw [hz] at h
        simp at h
        exact .inr ⟨by omega, h.symm⟩
    rcases key n h1 with ⟨_, q1⟩ | ⟨e1, q1⟩ <;> rcases key k h2 with ⟨_, q2⟩ | ⟨e2, q2⟩
    · exact w.inj n k a q1 q2
    · exact absurd q2 (w.ne hp q1)
    · exact absurd q1 (w.ne hp q2)
    · omega
theorem Ext.cell {F : Hp} {m : List Addr} (p : Addr) : Ext F F m (m ++ [p]) := ⟨Same.refl F, List.prefix_append m [p]⟩
/-- a cell is written -/
theorem Wd.write (w : Wd K F m G S H) {n : Nat} {a : Addr} (hn : m[n]? = some a) {b : Ob} {o : HO} (r : ObRep K F b o) : Wd K F m G (S.set n b) (upd H a o) where
  sub := fun c x e => by
    have hc : c ≠ a := fun z => by subst z; rw [w.off n c hn] at e; cases e
    rw [upd_ne hc]; exact w.sub c x e
  gsub := fun c x e => by
    have hc : c ≠ a := fun z => by subst z; rw [w.gm n c hn] at e; cases e
    rw [upd_ne hc]; exact w.gsub c x e
  gF := w.gF
  gm := w.gm
  len := by rw [List.length_set]; exact w.len
  cells := fun k c x h1 h2 => by
    by_cases hk : k = n
    · subst hk
      rw [hn] at h1; cases h1
      have hl : k < S.length := by rw [← w.len]; exact (List.getElem?_eq_some_iff.mp hn).1
      rw [List.getElem?_set_self hl] at h2; cases h2
      exact ⟨o, upd_same, r⟩
    · rw [List.getElem?_set_ne (fun z => hk z.symm)] at h2
      obtain ⟨y, hy, q⟩ := w.cells k c x h1 h2
      have hc : c ≠ a := fun z => hk (w.inj k n c h1 (by rw [z]; exact hn))
      exact ⟨y, by rw [upd_ne hc]; exact hy, q⟩
  off := w.off
  inj := w.inj
/-- young cells are forgotten -/
theorem Wd.cut (w : Wd K F m G S H) (n : Nat) : Wd K F (m.take n) G (S.take n) H where
  sub := w.sub
  gsub := w.gsub
  gF := w.gF
  gm := fun k a h1 => by
    have hk : k < n := by
      have := (List.getElem?_eq_some_iff.mp h1).1
      rw [List.length_take] at this; omega
    rw [List.getElem?_take_of_lt hk] at h1
    exact w.gm k a h1
  len := by rw [List.length_take, List.length_take, w.len]
  cells := fun k a b h1 h2 => by
    have hk : k < n := by
      have := (List.getElem?_eq_some_iff.mp h1).1
      rw [List.length_take] at this; omega
    rw [List.getElem?_take_of_lt hk] at h1 h2
    exact w.cells k a b h1 h2
  off := fun k a h1 => by
    have hk : k < n := by
      have := (List.getElem?_eq_some_iff.mp h1).1
      rw [List.length_take] at this; omega
    rw [List.getElem?_take_of_lt hk] at h1
    exact w.off k a h1
  inj := fun k j a h1 h2 => by
    have hk : k < n := by
      have := (List.getElem?_eq_some_iff.mp h1).1
      rw [List.length_take] at this; omega
    have hj : j < n := by
      have := (List.getElem?_eq_some_iff.mp h2).1
      rw [List.length_take] at this; omega
    rw [List.getElem?_take_of_lt hk] at h1
    rw [List.getElem?_take_of_lt hj] at h2
    exact w.inj k j a h1 h2
/-- .. but one, which becomes the last -/
theorem Wd.cut1 (w : Wd K F m G S H) {n k : Nat} {a : Addr} {b : Ob} (hk : n ≤ k) (h1 : m[k]? = some a) (h2 : S[k]? = some b) : Wd K F (m.take n ++ [a]) G (S.take n ++ [b]) H := by
  have hkm : k < m.length := (List.getElem?_eq_some_iff.mp h1).1
  have hkS : k < S.length := (List.getElem?_eq_some_iff.mp h2).1
  have ln : (m.take n).length = n := by rw [List.length_take]; omega
  have lS : (S.take n).length = n := by rw [List.length_take]; omega
  have key : ∀ (j : Nat) (c : Addr), (m.take n ++ [a])[j]? = some c → (j < n ∧ m[j]? = some c) ∨ (j = n ∧ c = a) := fun j c h => by
    by_cases hj : j < n
    · rw [List.getElem?_append_left (by omega), List.getElem?_take_of_lt hj] at h
      exact .inl ⟨hj, h⟩
    · rw [List.getElem?_append_right (by omega), ln] at h
      have hz : j - n = 0 := by
        have := (List.getElem?_eq_some_iff.mp h).1
        simp at this; omega
      rw [hz] at h
      simp at h
      exact .inr ⟨by omega, h.symm⟩
  refine ⟨w.sub, w.gsub, w.gF, fun j c e => ?_, by rw [List.length_append, List.length_append, ln, lS]; rfl, fun j c x e1 e2 => ?_, fun j c e => ?_, fun j i c e1 e2 => ?_⟩
  · rcases key j c e with ⟨hj, q⟩ | ⟨rfl, rfl⟩
    · exact w.gm j c q
    · exact w.gm k c h1
  · rcases key j c e1 with ⟨hj, q⟩ | ⟨rfl, rfl⟩
    · rw [List.getElem?_append_left (by omega), List.getElem?_take_of_lt hj] at e2
      exact w.cells j c x q e2
    · rw [List.getElem?_append_right (by omega), lS, Nat.sub_self] at e2
      simp at e2
      subst e2
      exact w.cells k c b h1 h2
  · rcases key j c e with ⟨hj, q⟩ | ⟨rfl, rfl⟩
    · exact w.off j c q
    · exact w.off k c h1
  · rcases key j c e1 with ⟨hj, q⟩ | ⟨rfl, rfl⟩ <;> rcases key i c e2 with ⟨hi, q'⟩ | ⟨rfl, q'⟩
    · exact w.inj j i c q q'
    · subst q'
      have := w.inj j k c q h1
      omega
    · have := w.inj i k c q' h1
      omega
    · rfl
end

/-! ### computations -/
inductive Exn where
  | mk (cls : String) (arg : D)
  deriving Inhabited
inductive R (α : Type) where
  | ok (a : α) (S : Sto)
  | err (x : Exn) (S : Sto)
  | no
abbrev M (α : Type) := Sto → R α
def pur {α : Type} (a : α) : M α := fun S => .ok a S
def bnd {α β : Type} (f : M α) (g : α → M β) : M β := fun S => match f S with
  | .ok a S' => g a S'
  | .err x S' => .err x S'
  | .no => .no
def stuck {α : Type} : M α := fun _ => .no
abbrev Env := List (Option Vl)
structure RepE (K : Frag) (F : Hp) (m : List Addr) (ρ : Env) (σ : L2.St) : Prop where
  len : ρ.length = σ.length
  at_ : ∀ (i : Nat) (x : Vl), ρ[i]? = some (some x) → ∃ v, σ[i]? = some (some v) ∧ RepV K F m x v
theorem RepE.mono {K : Frag} {F F' : Hp} {m m' : List Addr} (e : Ext F F' m m') {ρ : Env} {σ : L2.St} (h : RepE K F m ρ σ) : RepE K F' m' ρ σ :=
  ⟨h.len, fun i x q => let ⟨v, h1, h2⟩ := h.at_ i x q; ⟨v, h1, h2.mono e⟩⟩
theorem RepE.set {K : Frag} {F : Hp} {m : List Addr} {ρ : Env} {σ : L2.St} (h : RepE K F m ρ σ) {x : Vl} {v : V} (r : RepV K F m x v) (i : Nat) : RepE K F m (ρ.set i (some x)) (σ.set i (some v)) := by
  refine ⟨by rw [List.length_set, List.length_set]; exact h.len, fun j y q => ?_⟩
  by_cases hj : j = i
  · subst hj
    by_cases hl : j < ρ.length
    · rw [List.getElem?_set_self hl] at q
      cases q
      exact ⟨v, List.getElem?_set_self (by rw [← h.len]; exact hl), r⟩
    · rw [List.getElem?_eq_none (by rw [List.length_set]; omega)] at q
      cases q
  · rw [List.getElem?_set_ne (fun z => hj z.symm)] at q
    obtain ⟨u, h1, h2⟩ := h.at_ j y q
    exact ⟨u, by rw [List.getElem?_set_ne (fun z => hj z.symm)]; exact h1, h2⟩
theorem RepE.unset {K : Frag} {F : Hp} {m : List Addr} {ρ : Env} {σ : L2.St} (h : RepE K F m ρ σ) (i : Nat) (z : Option V) : RepE K F m (ρ.set i none) (σ.set i z) := by
  refine ⟨by rw [List.length_set, List.length_set]; exact h.len, fun j y q => ?_⟩
  by_cases hj : j = i
  · subst hj
    by_cases hl : j < ρ.length
    · rw [List.getElem?_set_self hl] at q; cases q
    · rw [List.getElem?_eq_none (by rw [List.length_set]; omega)] at q; cases q
  · rw [List.getElem?_set_ne (fun z => hj z.symm)] at q
    obtain ⟨u, h1, h2⟩ := h.at_ j y q
    exact ⟨u, by rw [List.getElem?_set_ne (fun z => hj z.symm)]; exact h1, h2⟩

/-! ### frames -/
section
variable {K : Frag} {F G H : Hp} {m : List Addr} {S : Sto}
/-- an object that is neither frozen nor a cell joins the frame -/
theorem Wd.frame (w : Wd K F m G S H) {p : Addr} {o : HO} (hp : H p = some o) (hF : F p = none) (hm : ∀ n : Nat, m[n]? ≠ some p) : Wd K F m (upd G p o) S H where
  sub := w.sub
  gsub := fun b x e => by
    by_cases hb : b = p
    · subst hb; rw [upd_same] at e; cases e; exact hp
    · rw [upd_ne hb] at e; exact w.gsub b x e
  gF := fun b x e => by
    by_cases hb : b = p
    · subst hb; exact hF
    · rw [upd_ne hb] at e; exact w.gF b x e
  gm := fun n a h => by
    have hb : a ≠ p := fun z => hm n (by rw [← z]; exact h)
    rw [upd_ne hb]; exact w.gm n a h
  len := w.len
  cells := w.cells
  off := w.off
  inj := w.inj
/-- .. and leaves it, turned -/
theorem Wd.unframe {p : Addr} {o o' : HO} (w : Wd K F m (upd G p o) S H) (hG : G p = none) : Wd K F m G S (upd H p o') where
  sub := fun b x e => by
    have hb : b ≠ p := fun z => by
      subst z
      rw [w.gF b o upd_same] at e; cases e
    rw [upd_ne hb]; exact w.sub b x e
  gsub := fun b x e => by
    have hb : b ≠ p := ne_of_none e hG
    rw [upd_ne hb]
    exact w.gsub b x (by rw [upd_ne hb]; exact e)
  gF := fun b x e => w.gF b x (by rw [upd_ne (ne_of_none e hG)]; exact e)
  gm := fun n a h => by
    have hb : a ≠ p := fun z => by
      have := w.gm n a h
      rw [z, upd_same] at this; cases this
    have := w.gm n a h
    rw [upd_ne hb] at this; exact this
  len := w.len
  cells := fun n a b h1 h2 => by
    have hb : a ≠ p := fun z => by
      have := w.gm n a h1
      rw [z, upd_same] at this; cases this
    obtain ⟨x, hx, r⟩ := w.cells n a b h1 h2
    exact ⟨x, by rw [upd_ne hb]; exact hx, r⟩
  off := w.off
  inj := w.inj
/-- what stands in the frame is frozen for good -/
theorem Wd.freeze {p : Addr} {o : HO} (w : Wd K F m (upd G p o) S H) (hG : G p = none) : Wd K (upd F p o) m G S H where
  sub := fun b x e => by
    by_cases hb : b = p
    · subst hb; rw [upd_same] at e; cases e; exact w.gsub b _ upd_same
    · rw [upd_ne hb] at e; exact w.sub b x e
  gsub := fun b x e => w.gsub b x (by rw [upd_ne (ne_of_none e hG)]; exact e)
  gF := fun b x e => by
    have hb : b ≠ p := ne_of_none e hG
    rw [upd_ne hb]; exact w.gF b x (by rw [upd_ne hb]; exact e)
  gm := fun n a h => by
    have hb : a ≠ p := fun z => by
      have := w.gm n a h
      rw [z, upd_same] at this; cases this
    have := w.gm n a h
    rw [upd_ne hb] at this; exact this
  len := w.len
  cells := fun n a b h1 h2 => by
    obtain ⟨x, hx, r⟩ := w.cells n a b h1 h2
    exact ⟨x, hx, r.mono (same_upd (w.gF p o upd_same))⟩
  off := fun n a h => by
    have hb : a ≠ p := fun z => by
      have := w.gm n a h
      rw [z, upd_same] at this; cases this
    rw [upd_ne hb]; exact w.off n a h
  inj := w.inj
/-- .. becomes a cell -/
theorem Wd.thaw {p : Addr} {o : HO} {b : Ob} (w : Wd K F m (upd G p o) S H) (hG : G p = none) (r : ObRep K F b o) : Wd K F (m ++ [p]) G (S ++ [b]) H := by
  have hp : H p = some o := w.gsub p o upd_same
  have hm : ∀ n : Nat, m[n]? ≠ some p := fun n z => by
    have := w.gm n p z
    rw [upd_same] at this; cases this
  have key : ∀ (j : Nat) (a : Addr), (m ++ [p])[j]? = some a → (j < m.length ∧ m[j]? = some a) ∨ (j = m.length ∧ a = p) := fun j a h => by
    by_cases hn : j < m.length
    · rw [List.getElem?_append_left hn] at h
      exact .inl ⟨hn, h⟩
    · rw [List.getElem?_append_right (by omega)] at h
      have hz : j - m.length = 0 := by
        have := (List.getElem?_eq_some_iff.mp h).1
        simp at this; omega
      rw [hz] at h
      simp at h
      exact .inr ⟨by omega, h.symm⟩
  refine ⟨w.sub, fun b x e => w.gsub b x (by rw [upd_ne (ne_of_none e hG)]; exact e), fun b x e => w.gF b x (by rw [upd_ne (ne_of_none e hG)]; exact e), fun n a h => ?_, by rw [List.length_append, List.length_append, w.len]; rfl, fun n a c h1 h2 => ?_, fun n a h => ?_, fun n k a h1 h2 => ?_⟩
  · rcases key n a h with ⟨_, q⟩ | ⟨_, rfl⟩
    · have hb : a ≠ p := fun z => hm n (by rw [← z]; exact q)
      have := w.gm n a q
      rw [upd_ne hb] at this; exact this
    · exact hG
  · rcases key n a h1 with ⟨hn, q⟩ | ⟨rfl, rfl⟩
    · rw [List.getElem?_append_left (by rw [← w.len]; exact hn)] at h2
      exact w.cells n a c q h2
    · rw [w.len, List.getElem?_append_right (Nat.le_refl _), Nat.sub_self] at h2
      simp at h2
      subst h2
      exact ⟨o, hp, r⟩
  · rcases key n a h with ⟨_, q⟩ | ⟨_, rfl⟩
    · exact w.off n a q
    · exact w.gF a o upd_same
  · rcases key n a h1 with ⟨_, q⟩ | ⟨e1, q⟩ <;> rcases key k a h2 with ⟨_, q'⟩ | ⟨e2, q'⟩
    · exact w.inj n k a q q'
    · exact absurd (by rw [← q']; exact q) (hm n)
    · exact absurd (by rw [← q]; exact q') (hm k)
    · omega
/-- a new object joins the frame -/
theorem Wd.push (w : Wd K F m G S H) {p : Addr} (hp : H p = none) (o : HO) : Wd K F m (upd G p o) S (upd H p o) := by
  have w1 : Wd K F m G S (upd H p o) := ⟨fun b x e => by rw [upd_ne (ne_of_none e (w.fresh hp))]; exact w.sub b x e, fun b x e => by rw [upd_ne (ne_of_none e (w.gfresh hp))]; exact w.gsub b x e, w.gF, w.gm, w.len,
    fun n a b h1 h2 => by
      obtain ⟨x, hx, r⟩ := w.cells n a b h1 h2
      exact ⟨x, by rw [upd_ne (w.ne hp h1)]; exact hx, r⟩, w.off, w.inj⟩
  exact w1.frame upd_same (w.fresh hp) fun n z => (w.ne hp z) rfl
end

/-- what is wanted of an exception (not yet: none leaves) -/
def Eout (K : Frag) (W : Value → Option Addr → Hp → Prop) (F : Hp) (m : List Addr) (G : Hp) (x : Exn) (S : Sto) : Prop := False
/-- the readings -/
def res {α β : Type} (K : Frag) (Rel : Hp → List Addr → α → β → Prop) (F : Hp) (m : List Addr) (G : Hp) (r : R α) (Q : β → Hp → Prop) : Prop := match r with
  | .ok a S' => ∀ (F' : Hp) (m' : List Addr) (H' : Hp) (b : β), Ext F F' m m' → Wd K F' m' G S' H' → Rel F' m' a b → Q b H'
  | .err x S' => False
  | .no => False
abbrev rV (K : Frag) : Hp → List Addr → Vl → V → Prop := fun F m => RepV K F m
abbrev rVs (K : Frag) : Hp → List Addr → List Vl → List V → Prop := fun F m => RepVs K F m
abbrev rB : Hp → List Addr → Bool → Bool → Prop := fun _ _ a b => a = b
def rd {α β : Type} (K : Frag) (Rel : Hp → List Addr → α → β → Prop) (f : Env → M α) : L2.St → Hp → (β → Hp → Prop) → Prop := fun σ H Q => ∃ F m G S ρ, Wd K F m G S H ∧ RepE K F m ρ σ ∧ res K Rel F m G (f ρ S) Q
abbrev tE (K : Frag) (f : Env → M Vl) : TE := rd K (rV K) f
abbrev tT (K : Frag) (f : Env → M Bool) : TT := rd K rB f
abbrev tA (K : Frag) (f : Env → M (List Vl)) : TA := rd K (rVs K) f
inductive Out where
  | nx (ρ : Env) | rt (x : Vl) | bk (ρ : Env) | ct (ρ : Env)
def outS (K : Frag) (D : Ends) (F : Hp) (m : List Addr) (H : Hp) : Out → Prop
  | .nx ρ => ∀ σ, RepE K F m ρ σ → D.nx σ H
  | .rt x => ∀ v, RepV K F m x v → D.rt v H
  | .bk ρ => ∀ σ, RepE K F m ρ σ → D.bk σ H
  | .ct ρ => ∀ σ, RepE K F m ρ σ → D.ct σ H
def resS (K : Frag) (D : Ends) (F : Hp) (m : List Addr) (G : Hp) (r : R Out) : Prop := match r with
  | .ok o S' => ∀ (F' : Hp) (m' : List Addr) (H' : Hp), Ext F F' m m' → Wd K F' m' G S' H' → outS K D F' m' H' o
  | .err x S' => False
  | .no => False
def tS (K : Frag) (f : Env → M Out) : TS := fun D σ H => ∃ F m G S ρ, Wd K F m G S H ∧ RepE K F m ρ σ ∧ resS K D F m G (f ρ S)
/-- the judgements -/
abbrev ME (X : Cx) (e : Expr) (f : Env → M Vl) : Prop := PE X e (tE X.K f)
abbrev MT (X : Cx) (e : Expr) (f : Env → M Bool) : Prop := PT X e (tT X.K f)
abbrev MA (X : Cx) (es : List Expr) (f : Env → M (List Vl)) : Prop := PA X es (tA X.K f)
abbrev MS (X : Cx) (st : Stmt) (f : Env → M Out) : Prop := PS X st (tS X.K f)
abbrev MSs (X : Cx) (st : List Stmt) (f : Env → M Out) : Prop := PSs X st (tS X.K f)
theorem PE.imp {X : Cx} {e : Expr} {t t' : TE} (h : PE X e t) (i : ∀ σ H Q, t' σ H Q → t σ H Q) : PE X e t' := ⟨fun pins s σ H Q I q => h.run pins s σ H Q I (i σ H Q q)⟩
theorem PT.imp {X : Cx} {e : Expr} {t t' : TT} (h : PT X e t) (i : ∀ σ H Q, t' σ H Q → t σ H Q) : PT X e t' := ⟨fun pins s σ H Q I q => h.run pins s σ H Q I (i σ H Q q)⟩
theorem PA.imp {X : Cx} {e : List Expr} {t t' : TA} (h : PA X e t) (i : ∀ σ H Q, t' σ H Q → t σ H Q) : PA X e t' := ⟨fun p pins s σ H Q I q => h.run p pins s σ H Q I (i σ H Q q)⟩
theorem PS.imp {X : Cx} {e : Stmt} {t t' : TS} (h : PS X e t) (i : ∀ D σ H, t' D σ H → t D σ H) : PS X e t' := ⟨fun pins s σ H D I q => h.run pins s σ H D I (i D σ H q)⟩
theorem PSs.imp {X : Cx} {e : List Stmt} {t t' : TS} (h : PSs X e t) (i : ∀ D σ H, t' D σ H → t D σ H) : PSs X e t' := ⟨fun pins s σ H D I q => h.run pins s σ H D I (i D σ H q)⟩

section
variable {α β γ δ : Type} {K : Frag} {A : Hp → List Addr → α → β → Prop} {B : Hp → List Addr → γ → δ → Prop} {F F1 G H : Hp} {m m1 : List Addr} {S : Sto} {ρ : Env} {σ : L2.St}
theorem res_ext {r : R α} {Q : β → Hp → Prop} (e : Ext F F1 m m1) (h : res K A F m G r Q) : res K A F1 m1 G r Q := by
  cases r with
  | ok a S' => exact fun F' m' H' b e' w r => h F' m' H' b (e.trans e') w r
  | err x S' => exact h
  | no => exact h
theorem resS_ext {r : R Out} {D : Ends} (e : Ext F F1 m m1) (h : resS K D F m G r) : resS K D F1 m1 G r := by
  cases r with
  | ok a S' => exact fun F' m' H' e' w => h F' m' H' (e.trans e') w
  | err x S' => exact h
  | no => exact h
/-- the answer is there -/
theorem res_ok {a : α} {b : β} {Q : β → Hp → Prop} (w : Wd K F m G S H) (r : A F m a b) (h : res K A F m G (.ok a S) Q) : Q b H := h F m H b (Ext.refl F m) w r
/-- what bnd f g reads, from the reading of f -/
theorem rd_bnd {f : Env → M α} {g : α → M γ} {Q : δ → Hp → Prop} (w : Wd K F m G S H) (r : RepE K F m ρ σ) (h : res K B F m G (bnd (f ρ) g S) Q) :
    rd K A f σ H fun b H' => ∃ F' m' S' a, Ext F F' m m' ∧ Wd K F' m' G S' H' ∧ RepE K F' m' ρ σ ∧ A F' m' a b ∧ res K B F' m' G (g a S') Q := by
  refine ⟨F, m, G, S, ρ, w, r, ?_⟩
  unfold bnd at h
  cases q : f ρ S with
  | ok a S' =>
    rw [q] at h
    exact fun F' m' H' b e w' rb => ⟨F', m', S', a, e, w', r.mono e, rb, res_ext e h⟩
  | err x S' => rw [q] at h; exact h.elim
  | no => rw [q] at h; exact h.elim
theorem rd_bndS {f : Env → M α} {g : α → M Out} {D : Ends} (w : Wd K F m G S H) (r : RepE K F m ρ σ) (h : resS K D F m G (bnd (f ρ) g S)) :
    rd K A f σ H fun b H' => ∃ F' m' S' a, Ext F F' m m' ∧ Wd K F' m' G S' H' ∧ RepE K F' m' ρ σ ∧ A F' m' a b ∧ resS K D F' m' G (g a S') := by
  refine ⟨F, m, G, S, ρ, w, r, ?_⟩
  unfold bnd at h
  cases q : f ρ S with
  | ok a S' =>
    rw [q] at h
    exact fun F' m' H' b e w' rb => ⟨F', m', S', a, e, w', r.mono e, rb, resS_ext e h⟩
  | err x S' => rw [q] at h; exact h.elim
  | no => rw [q] at h; exact h.elim
/-- the reading holds of what it says -/
theorem rd_mono {f : Env → M α} {Q Q' : β → Hp → Prop} (h : rd K A f σ H Q) (i : ∀ b H', Q b H' → Q' b H') : rd K A f σ H Q' := by
  obtain ⟨F, m, G, S, ρ, w, r, h⟩ := h
  refine ⟨F, m, G, S, ρ, w, r, ?_⟩
  cases q : f ρ S with
  | ok a S' => rw [q] at h; exact fun F' m' H' b e w' rb => i b H' (h F' m' H' b e w' rb)
  | err x S' => rw [q] at h; exact h.elim
  | no => rw [q] at h; exact h.elim
end
end Dz

/-! Dz2: expressions. -/
namespace Dz
open PySem PySem.Spec PyProof.Rows L2

/-! ### names, constants -/
def eVar (i : Nat) : Env → M Vl := fun ρ => match ρ[i]? with
  | some (some x) => pur x
  | _ => stuck
def eC (d : D) : Env → M Vl := fun _ => pur (.d d)
section
variable {X : Cx} {a b c : Expr} {pos : Pos} {f g h : Env → M Vl}
theorem me_var (i : Nat) {x : Str} {pos : Pos} (hN : X.N[i]? = some x := by rfl) (hv : Vis X.env.scope x := by first | exact Or.inl rfl | exact Or.inr (Or.inl rfl) | exact Or.inr (Or.inr rfl)) (hd : (x == ("__debug__" : Str)) = false := by decide)
    (hcd : (x == ("__classdict__" : Str)) = false := by decide) : ME X (.Name x pos) (eVar i) := PE.imp (pe_var hN hv hd hcd) fun σ H Q ⟨F, m, G, S, ρ, w, r, h⟩ => by
  unfold eVar at h
  rcases q : ρ[i]? with _ | _ | x
  · rw [q] at h; exact h.elim
  · rw [q] at h; exact h.elim
  · rw [q] at h
    obtain ⟨v, h1, h2⟩ := r.at_ i x q
    exact ⟨v, h1, res_ok w h2 h⟩
theorem me_c {e : Expr} {v : V} {d : D} (he : PE X e (tC v)) (hr : ∀ K F, Rep K F d v) : ME X e (eC d) := PE.imp he fun σ H Q ⟨F, m, G, S, ρ, w, r, h⟩ => res_ok w (hr _ _) h
theorem me_int {i : Int} {j : Nat} {pos : Pos} : ME X (.Constant (.int i) j pos) (eC (.int i)) := me_c pe_int fun _ _ => .int i
theorem me_bl {i : Bool} {j : Nat} {pos : Pos} : ME X (.Constant (.bool i) j pos) (eC (.bl i)) := me_c pe_bl fun _ _ => .bl i
theorem me_non {j : Nat} {pos : Pos} : ME X (.Constant .none j pos) (eC .non) := me_c pe_non fun _ _ => .non
theorem me_str {i : Str} {j : Nat} {pos : Pos} : ME X (.Constant (.str i) j pos) (eC (.str i)) := me_c pe_str fun _ _ => .str i
/-- a module's constant -/
theorem me_glob {x : Str} {v : V} {d : D} {u : Value} {pos : Pos} (hg : Gl X x) (hm : X.mg x = some u) (r : RelV v u) (hr : ∀ F, Rep X.K F d v) (hd : (x == ("__debug__" : Str)) = false := by decide) : ME X (.Name x pos) (eC d) :=
  PE.imp (pe_glob hg hm r hd) fun σ H Q ⟨F, m, G, S, ρ, w, r, h⟩ => res_ok w (hr _) h

theorem me_gint {x : Str} {i : Int} {t : Tok} {pos : Pos} (hg : Gl X x) (hm : X.mg x = some (.int i t)) (hd : (x == ("__debug__" : Str)) = false := by decide) : ME X (.Name x pos) (eC (.int i)) := me_glob (v := .int i) hg hm ⟨t, rfl⟩ (fun _ => .int i) hd
theorem me_gstr {x i : Str} {t : Tok} {pos : Pos} (hg : Gl X x) (hm : X.mg x = some (.str i t)) (hd : (x == ("__debug__" : Str)) = false := by decide) : ME X (.Name x pos) (eC (.str i)) := me_glob (v := .str i) hg hm ⟨t, rfl⟩ (fun _ => .str i) hd

/-! ### two operands -/
def R2M (K : Frag) (g : Vl → Vl → M Vl) : R2 := fun x y H Q => ∃ F m G S a b, Wd K F m G S H ∧ RepV K F m a x ∧ RepV K F m b y ∧ res K (rV K) F m G (g a b S) Q
def OpM (X : Cx) (f : Value → Value → Sem Value) (g : Vl → Vl → M Vl) : Prop := OpR X f (R2M X.K g)
def eOp (g : Vl → Vl → M Vl) (f h : Env → M Vl) : Env → M Vl := fun ρ => bnd (f ρ) fun x => bnd (h ρ) fun y => g x y
theorem tOp_of {g : Vl → Vl → M Vl} {K : Frag} {σ : L2.St} {H : Hp} {Q : VK} (hw : tE K (eOp g f h) σ H Q) : tOp (R2M K g) (tE K f) (tE K h) σ H Q := by
  obtain ⟨F, m, G, S, ρ, w, r, q⟩ := hw
  refine rd_mono (rd_bnd (A := rV K) w r q) fun x H1 ⟨F1, m1, S1, a1, e1, w1, r1, ra, q1⟩ => ?_
  refine rd_mono (rd_bnd (A := rV K) w1 r1 q1) fun y H2 ⟨F2, m2, S2, a2, e2, w2, r2, rb, q2⟩ => ?_
  exact ⟨F2, m2, G, S2, a1, a2, w2, ra.mono e2, rb, q2⟩
theorem me_op {op : Operator} {g : Vl → Vl → M Vl} (ho : OpM X (binaryOp op) g) (ha : ME X a f) (hb : ME X b h) : ME X (.BinOp a op b pos) (eOp g f h) := PE.imp (pe_op ho ha hb) fun _ _ _ => tOp_of
theorem me_cmp {op : CmpOp} {g : Vl → Vl → M Vl} (ho : OpM X (compareOp op) g) (ha : ME X a f) (hb : ME X b h) (hm : behindInMarks op b = false := by first | exact nomark _ | rfl) : ME X (.Compare a [op] [b] pos) (eOp g f h) := PE.imp (pe_cmpR ho ha hb hm) fun _ _ _ => tOp_of
def asB (x : Vl) : M Bool := match x with
  | .d (.bl b) => pur b
  | _ => stuck
def eTest (f : Env → M Vl) : Env → M Bool := fun ρ => bnd (f ρ) asB
theorem asB_of {K : Frag} {F G H : Hp} {m : List Addr} {S : Sto} {x : Vl} {v : V} {Q : Bool → Hp → Prop} (w : Wd K F m G S H) (r : RepV K F m x v) (h : res K rB F m G (asB x S) Q) : ∃ k, v = .bl k ∧ Q k H := by
  unfold asB at h
  split at h
  · cases r
    exact ⟨_, rfl, res_ok w rfl h⟩
  · exact h.elim
theorem tTest_of {K : Frag} {σ : L2.St} {H : Hp} {Q : Bool → Hp → Prop} (hw : tT K (eTest f) σ H Q) : tE K f σ H fun x H' => ∃ k, x = .bl k ∧ Q k H' := by
  obtain ⟨F, m, G, S, ρ, w, r, q⟩ := hw
  refine rd_mono (rd_bnd (A := rV K) w r q) fun x H1 ⟨F1, m1, S1, a1, e1, w1, r1, ra, q1⟩ => ?_
  exact asB_of w1 ra q1
theorem tE_mono {K : Frag} {σ : L2.St} {H : Hp} {f : Env → M Vl} {Q Q' : VK} (h : tE K f σ H Q) (i : ∀ b H', Q b H' → Q' b H') : tE K f σ H Q' := rd_mono h i
theorem mt_cmp {op : CmpOp} {g : Vl → Vl → M Vl} (ho : OpM X (compareOp op) g) (ha : ME X a f) (hb : ME X b h) (hm : behindInMarks op b = false := by first | exact nomark _ | rfl) : MT X (.Compare a [op] [b] pos) (eTest (eOp g f h)) :=
  PT.imp (pt_cmpR ho ha hb hm) fun _ _ _ hw => tOp_of (tTest_of hw)
theorem mt_val {e : Expr} (he : ME X e f) (hp : ∀ whole, isTrue e X.env whole = (do let v ← whole; standAt e.pos; holding [v] (truthy v)) := by intro _; rfl) : MT X e (eTest f) := PT.imp (pt_val he hp) fun _ _ _ hw => tTest_of hw
/-- a < b < c -/
def eChain (g g' : Vl → Vl → M Vl) (fa fb fc : Env → M Vl) : Env → M Vl := fun ρ => bnd (fa ρ) fun x => bnd (fb ρ) fun y => bnd (g x y) fun z => bnd (asB z) fun k => match k with
  | true => bnd (fc ρ) fun z => g' y z
  | false => pur (.d (.bl false))
theorem bnd_ok {α β : Type} {p : M α} {q : α → M β} {S S' : Sto} {a : α} (h : p S = .ok a S') : bnd p q S = q a S' := by unfold bnd; rw [h]
theorem bnd_bnd {α β γ : Type} (p : M α) (q : α → M β) (r : β → M γ) : bnd (bnd p q) r = bnd p fun a => bnd (q a) r := by
  funext S
  unfold bnd
  cases p S <;> rfl
theorem bnd_ret {α β : Type} (a : α) (q : α → M β) : bnd (pur a) q = q a := rfl
/-- the reading of p and then q, with p no function of the slots -/
theorem res_bnd {α β γ δ : Type} {K : Frag} {A : Hp → List Addr → α → β → Prop} {B : Hp → List Addr → γ → δ → Prop} {F G : Hp} {m : List Addr} {S : Sto} {p : M α} {q : α → M γ} {Q : δ → Hp → Prop} (h : res K B F m G (bnd p q S) Q) :
    res K A F m G (p S) fun b H' => ∃ F' m' S' a, Ext F F' m m' ∧ Wd K F' m' G S' H' ∧ A F' m' a b ∧ res K B F' m' G (q a S') Q := by
  unfold bnd at h
  cases e : p S with
  | ok a S' =>
    rw [e] at h
    exact fun F' m' H' b x w r => ⟨F', m', S', a, x, w, r, res_ext x h⟩
  | err x S' => rw [e] at h; exact h
  | no => rw [e] at h; exact h
theorem tChain_of {g g' : Vl → Vl → M Vl} {fa fb fc : Env → M Vl} {K : Frag} {σ : L2.St} {H : Hp} {Q : VK} (hw : tE K (eChain g g' fa fb fc) σ H Q) : tChain (R2M K g) (R2M K g') (tE K fa) (tE K fb) (tE K fc) σ H Q := by
  obtain ⟨F, m, G, S, ρ, w, r, q⟩ := hw
  refine rd_mono (rd_bnd (A := rV K) w r q) fun x H1 ⟨F1, m1, S1, a1, e1, w1, r1, ra, q1⟩ => ?_
  refine rd_mono (rd_bnd (A := rV K) w1 r1 q1) fun y H2 ⟨F2, m2, S2, a2, e2, w2, r2, rb, q2⟩ => ?_
  refine ⟨F2, m2, G, S2, a1, a2, w2, ra.mono e2, rb, ?_⟩
  have z := res_bnd (A := rV K) q2
  cases e : g a1 a2 S2 with
  | err => rw [e] at z; exact z
  | no => rw [e] at z; exact z
  | ok t S3 =>
    rw [e] at z
    intro F3 m3 H3 v e3 w3 r3
    obtain ⟨F4, m4, S4, t', e4, w4, r4, q4⟩ := z F3 m3 H3 v e3 w3 r3
    have z4 := res_bnd (A := rB) q4
    unfold asB at z4
    split at z4
    · rename_i k
      cases r4
      refine ⟨k, rfl, ?_⟩
      obtain ⟨F5, m5, S5, k', e5, w5, r5, q5⟩ := z4 F4 m4 H3 k (Ext.refl _ _) w4 rfl
      subst r5
      cases k' with
      | true =>
        rw [if_pos rfl]
        refine rd_mono (rd_bnd (A := rV K) (f := fc) (ρ := ρ) w5 (r2.mono (e4.trans e5)) q5) fun zz H6 ⟨F6, m6, S6, a6, e6, w6, r6, rc, q6⟩ => ?_
        exact ⟨F6, m6, G, S6, a2, a6, w6, rb.mono (e4.trans (e5.trans e6)), rc, q6⟩
      | false =>
        rw [if_neg Bool.false_ne_true]
        exact res_ok w5 (.bl false) q5
    · exact z4.elim
theorem me_chain {op op' : CmpOp} {g g' : Vl → Vl → M Vl} {fa fb fc : Env → M Vl} (ho : OpM X (compareOp op) g) (ho' : OpM X (compareOp op') g') (ha : ME X a fa) (hb : ME X b fb) (hc : ME X c fc) (hl : lastMarks [op, op'] [b, c] = false := by rfl) :
    ME X (.Compare a [op, op'] [b, c] pos) (eChain g g' fa fb fc) := PE.imp (pe_chain ho ho' ha hb hc hl) fun _ _ _ => tChain_of
theorem mt_chain {op op' : CmpOp} {g g' : Vl → Vl → M Vl} {fa fb fc : Env → M Vl} (ho : OpM X (compareOp op) g) (ho' : OpM X (compareOp op') g') (ha : ME X a fa) (hb : ME X b fb) (hc : ME X c fc) (hl : lastMarks [op, op'] [b, c] = false := by rfl) :
    MT X (.Compare a [op, op'] [b, c] pos) (eTest (eChain g g' fa fb fc)) := PT.imp (pt_chain ho ho' ha hb hc hl) fun _ _ _ hw => tChain_of (tTest_of hw)

/-! ### one operand -/
def RUM (K : Frag) (g : Vl → M Vl) : V → Hp → VK → Prop := fun x H Q => ∃ F m G S a, Wd K F m G S H ∧ RepV K F m a x ∧ res K (rV K) F m G (g a S) Q
def eUn (g : Vl → M Vl) (f : Env → M Vl) : Env → M Vl := fun ρ => bnd (f ρ) g
theorem tUn_of {g : Vl → M Vl} {K : Frag} {σ : L2.St} {H : Hp} {Q : VK} (hw : tE K (eUn g f) σ H Q) : tUn (RUM K g) (tE K f) σ H Q := by
  obtain ⟨F, m, G, S, ρ, w, r, q⟩ := hw
  refine rd_mono (rd_bnd (A := rV K) w r q) fun x H1 ⟨F1, m1, S1, a1, e1, w1, r1, ra, q1⟩ => ?_
  exact ⟨F1, m1, G, S1, a1, w1, ra, q1⟩
theorem me_un {op : UnaryOp} {g : Vl → M Vl} (ho : UnR X (unaryOp op) (RUM X.K g)) (ha : ME X a f) : ME X (.UnaryOp op a pos) (eUn g f) := PE.imp (pe_un ho ha) fun _ _ _ => tUn_of

/-! ### and, or, not -/
/-- as values, all but the last a bool -/
def eAnd (f h : Env → M Vl) : Env → M Vl := fun ρ => bnd (f ρ) fun x => bnd (asB x) fun k => match k with
  | true => h ρ
  | false => pur (.d (.bl false))
def eOr (f h : Env → M Vl) : Env → M Vl := fun ρ => bnd (f ρ) fun x => bnd (asB x) fun k => match k with
  | true => pur (.d (.bl true))
  | false => h ρ
def eNot (f : Env → M Vl) : Env → M Vl := fun ρ => bnd (f ρ) fun x => bnd (asB x) fun k => pur (.d (.bl (!k)))
theorem asB_bnd {α β : Type} {B : Hp → List Addr → α → β → Prop} {K : Frag} {F G H : Hp} {m : List Addr} {S : Sto} {x : Vl} {v : V} {q : Bool → M α} {Q : β → Hp → Prop} (w : Wd K F m G S H) (r : RepV K F m x v) (h : res K B F m G (bnd (asB x) q S) Q) :
    ∃ k, v = .bl k ∧ res K B F m G (q k S) Q := by
  unfold asB at h
  split at h
  · cases r
    exact ⟨_, rfl, h⟩
  · exact h.elim
theorem me_one {op : PySem.BoolOp} (ha : ME X a f) : ME X (.BoolOp op [a] pos) f := pe_one ha
theorem me_and {rest : List Expr} (ha : ME X a f) (hb : ME X (.BoolOp .And (b :: rest) pos) h) : ME X (.BoolOp .And (a :: b :: rest) pos) (eAnd f h) := PE.imp (pe_and ha hb) fun σ H Q ⟨F, m, G, S, ρ, w, r, q⟩ => by
  refine rd_mono (rd_bnd (A := rV X.K) w r q) fun x H1 ⟨F1, m1, S1, a1, e1, w1, r1, ra, q1⟩ => ?_
  obtain ⟨k, rfl, q2⟩ := asB_bnd w1 ra q1
  refine ⟨k, rfl, ?_⟩
  cases k with
  | true => rw [if_pos rfl]; exact ⟨F1, m1, G, S1, ρ, w1, r1, q2⟩
  | false => rw [if_neg Bool.false_ne_true]; exact res_ok w1 (.bl false) q2
theorem me_or {rest : List Expr} (ha : ME X a f) (hb : ME X (.BoolOp .Or (b :: rest) pos) h) : ME X (.BoolOp .Or (a :: b :: rest) pos) (eOr f h) := PE.imp (pe_or ha hb) fun σ H Q ⟨F, m, G, S, ρ, w, r, q⟩ => by
  refine rd_mono (rd_bnd (A := rV X.K) w r q) fun x H1 ⟨F1, m1, S1, a1, e1, w1, r1, ra, q1⟩ => ?_
  obtain ⟨k, rfl, q2⟩ := asB_bnd w1 ra q1
  refine ⟨k, rfl, ?_⟩
  cases k with
  | true => rw [if_pos rfl]; exact res_ok w1 (.bl true) q2
  | false => rw [if_neg Bool.false_ne_true]; exact ⟨F1, m1, G, S1, ρ, w1, r1, q2⟩
theorem me_not (ha : ME X a f) : ME X (.UnaryOp .Not a pos) (eNot f) := PE.imp (pe_not ha) fun σ H Q ⟨F, m, G, S, ρ, w, r, q⟩ => by
  refine rd_mono (rd_bnd (A := rV X.K) w r q) fun x H1 ⟨F1, m1, S1, a1, e1, w1, r1, ra, q1⟩ => ?_
  obtain ⟨k, rfl, q2⟩ := asB_bnd w1 ra q1
  exact ⟨k, rfl, res_ok w1 (.bl _) q2⟩
/-- as tests -/
def bAnd (f h : Env → M Bool) : Env → M Bool := fun ρ => bnd (f ρ) fun k => match k with
  | true => h ρ
  | false => pur false
def bOr (f h : Env → M Bool) : Env → M Bool := fun ρ => bnd (f ρ) fun k => match k with
  | true => pur true
  | false => h ρ
def bNot (f : Env → M Bool) : Env → M Bool := fun ρ => bnd (f ρ) fun k => pur (!k)
abbrev MW (X : Cx) (e : Expr) (f : Env → M Bool) : Prop := PW X e (tT X.K f)
theorem PW.imp {X : Cx} {e : Expr} {t t' : TT} (h : PW X e t) (i : ∀ σ H Q, t' σ H Q → t σ H Q) : PW X e t' := ⟨fun wh pins s σ H Q I q => h.run wh pins s σ H Q I (i σ H Q q)⟩
variable {p q : Env → M Bool}
theorem mw_and1 (ha : MT X a p) : MW X (.BoolOp .And [a] pos) p := pw_and1 ha
theorem mw_or1 (ha : MT X a p) : MW X (.BoolOp .Or [a] pos) p := pw_or1 ha
theorem mw_and {rest : List Expr} (ha : MT X a p) (hb : MW X (.BoolOp .And (b :: rest) pos) q) : MW X (.BoolOp .And (a :: b :: rest) pos) (bAnd p q) := PW.imp (pw_and ha hb) fun σ H Q ⟨F, m, G, S, ρ, w, r, z⟩ => by
  refine rd_mono (rd_bnd (A := rB) w r z) fun x H1 ⟨F1, m1, S1, k, e1, w1, r1, ra, q1⟩ => ?_
  subst ra
  cases k with
  | true => rw [if_pos rfl]; exact ⟨F1, m1, G, S1, ρ, w1, r1, q1⟩
  | false => rw [if_neg Bool.false_ne_true]; exact res_ok w1 rfl q1
theorem mw_or {rest : List Expr} (ha : MT X a p) (hb : MW X (.BoolOp .Or (b :: rest) pos) q) : MW X (.BoolOp .Or (a :: b :: rest) pos) (bOr p q) := PW.imp (pw_or ha hb) fun σ H Q ⟨F, m, G, S, ρ, w, r, z⟩ => by
  refine rd_mono (rd_bnd (A := rB) w r z) fun x H1 ⟨F1, m1, S1, k, e1, w1, r1, ra, q1⟩ => ?_
  subst ra
  cases k with
  | true => rw [if_pos rfl]; exact res_ok w1 rfl q1
  | false => rw [if_neg Bool.false_ne_true]; exact ⟨F1, m1, G, S1, ρ, w1, r1, q1⟩
theorem mt_w {e : Expr} (h : MW X e p) : MT X e p := PW.pt h
theorem mt_not (ha : MT X a p) : MT X (.UnaryOp .Not a pos) (bNot p) := PT.imp (pt_not ha) fun σ H Q ⟨F, m, G, S, ρ, w, r, z⟩ => by
  refine rd_mono (rd_bnd (A := rB) w r z) fun x H1 ⟨F1, m1, S1, k, e1, w1, r1, ra, q1⟩ => ?_
  subst ra
  exact res_ok w1 rfl q1
def eIf (p : Env → M Bool) (f h : Env → M Vl) : Env → M Vl := fun ρ => bnd (p ρ) fun k => match k with
  | true => f ρ
  | false => h ρ
theorem me_if (hc : MT X c p) (ha : ME X a f) (hb : ME X b h) : ME X (.IfExp c a b pos) (eIf p f h) := PE.imp (pe_ifExp hc ha hb) fun σ H Q ⟨F, m, G, S, ρ, w, r, z⟩ => by
  refine rd_mono (rd_bnd (A := rB) w r z) fun x H1 ⟨F1, m1, S1, k, e1, w1, r1, ra, q1⟩ => ?_
  subst ra
  cases k with
  | true => rw [if_pos rfl]; exact ⟨F1, m1, G, S1, ρ, w1, r1, q1⟩
  | false => rw [if_neg Bool.false_ne_true]; exact ⟨F1, m1, G, S1, ρ, w1, r1, q1⟩

/-! ### argument lists, displays, calls -/
def aNil : Env → M (List Vl) := fun _ => pur []
def aCons (f : Env → M Vl) (g : Env → M (List Vl)) : Env → M (List Vl) := fun ρ => bnd (f ρ) fun x => bnd (g ρ) fun xs => pur (x :: xs)
variable {es : List Expr} {fs : Env → M (List Vl)} {e : Expr}
theorem ma_nil : MA X [] aNil := PA.imp pa_nil fun σ H Q ⟨F, m, G, S, ρ, w, r, z⟩ => res_ok w .nil z
theorem ma_cons (ha : ME X e f) (hr : MA X es fs) (hs : starEach (e :: es) X.env = (false, eval e X.env) :: starEach es X.env := by rfl) : MA X (e :: es) (aCons f fs) := PA.imp (pa_cons ha hr hs) fun σ H Q ⟨F, m, G, S, ρ, w, r, z⟩ => by
  refine rd_mono (rd_bnd (A := rV X.K) w r z) fun x H1 ⟨F1, m1, S1, a1, e1, w1, r1, ra, q1⟩ => ?_
  refine rd_mono (rd_bnd (A := rVs X.K) w1 r1 q1) fun xs H2 ⟨F2, m2, S2, a2, e2, w2, r2, rb, q2⟩ => ?_
  exact res_ok w2 (.cons (ra.mono e2) rb) q2
/-- all of them data -/
def asDs : List Vl → Option (List D)
  | [] => some []
  | .d x :: r => match asDs r with
    | some ds => some (x :: ds)
    | none => none
  | .c _ :: _ => none
theorem asDs_rep {K : Frag} {F : Hp} {m : List Addr} : ∀ {xs : List Vl} {vs : List V} {ds : List D}, RepVs K F m xs vs → asDs xs = some ds → Reps K F ds vs
  | _, _, _, .nil, h => by cases h; exact .nil
  | .d x :: xs, _, ds, .cons r t, h => by
    unfold asDs at h
    cases q : asDs xs with
    | none => rw [q] at h; cases h
    | some es => rw [q] at h; cases h; exact .cons r (asDs_rep t q)
  | .c n :: xs, _, ds, .cons r t, h => by cases h
def dTup (xs : List Vl) : M Vl := match asDs xs with
  | some ds => if ds.length ≤ 100000 then pur (.d (.tup ds)) else stuck
  | none => stuck
def dLst (xs : List Vl) : M Vl := match asDs xs with
  | some ds => if ds.length ≤ 100000 then pur (.d (.lst ds)) else stuck
  | none => stuck
def dCell (xs : List Vl) : M Vl := match asDs xs with
  | some ds => if ds.length ≤ 100000 then fun S => .ok (.c S.length) (S ++ [.lst ds]) else stuck
  | none => stuck
def eTup (fs : Env → M (List Vl)) : Env → M Vl := fun ρ => bnd (fs ρ) dTup
def eLst (fs : Env → M (List Vl)) : Env → M Vl := fun ρ => bnd (fs ρ) dLst
def eCell (fs : Env → M (List Vl)) : Env → M Vl := fun ρ => bnd (fs ρ) dCell
theorem sz5 {n : Nat} (h : n ≤ 100000) : n ≤ sizeLine := Nat.le_trans h (by decide)
theorem sz5' {n : Nat} (h : n < 100000) : n < sizeLine := Nat.lt_of_lt_of_le h (by decide)
theorem me_tup {k : Nat} (ha : MA X es fs) : ME X (.Tuple es k pos) (eTup fs) := PE.imp (pe_tup ha) fun σ H Q ⟨F, m, G, S, ρ, w, r, z⟩ => by
  refine rd_mono (rd_bnd (A := rVs X.K) w r z) fun vs H1 ⟨F1, m1, S1, xs, e1, w1, r1, ra, q1⟩ => ?_
  unfold dTup at q1
  cases q : asDs xs with
  | none => rw [q] at q1; exact q1.elim
  | some ds =>
    rw [q] at q1
    have rs := asDs_rep ra q
    by_cases hl : ds.length ≤ 100000
    · simp only [if_pos hl] at q1
      refine ⟨by rw [← rs.length]; exact sz5 hl, fun p hp => ?_⟩
      exact q1 _ m1 _ _ (Ext.lay (w1.fresh hp)) (w1.lay hp _) (.tup (.inl (.inl upd_same)) (rs.mono (same_upd (w1.fresh hp))))
    · simp only [if_neg hl] at q1; exact q1.elim
theorem me_lst (ha : MA X es fs) : ME X (.List es pos) (eLst fs) := PE.imp (pe_lst ha) fun σ H Q ⟨F, m, G, S, ρ, w, r, z⟩ => by
  refine rd_mono (rd_bnd (A := rVs X.K) w r z) fun vs H1 ⟨F1, m1, S1, xs, e1, w1, r1, ra, q1⟩ => ?_
  unfold dLst at q1
  cases q : asDs xs with
  | none => rw [q] at q1; exact q1.elim
  | some ds =>
    rw [q] at q1
    have rs := asDs_rep ra q
    by_cases hl : ds.length ≤ 100000
    · simp only [if_pos hl] at q1
      refine ⟨by rw [← rs.length]; exact sz5 hl, fun p hp => ?_⟩
      exact q1 _ m1 _ _ (Ext.lay (w1.fresh hp)) (w1.lay hp _) (.lst upd_same (rs.mono (same_upd (w1.fresh hp))))
    · simp only [if_neg hl] at q1; exact q1.elim
theorem me_cell (ha : MA X es fs) : ME X (.List es pos) (eCell fs) := PE.imp (pe_lst ha) fun σ H Q ⟨F, m, G, S, ρ, w, r, z⟩ => by
  refine rd_mono (rd_bnd (A := rVs X.K) w r z) fun vs H1 ⟨F1, m1, S1, xs, e1, w1, r1, ra, q1⟩ => ?_
  unfold dCell at q1
  cases q : asDs xs with
  | none => rw [q] at q1; exact q1.elim
  | some ds =>
    rw [q] at q1
    have rs := asDs_rep ra q
    by_cases hl : ds.length ≤ 100000
    · simp only [if_pos hl] at q1
      refine ⟨by rw [← rs.length]; exact sz5 hl, fun p hp => ?_⟩
      refine q1 _ _ _ _ (Ext.cell p) (w1.cell hp (.lst rs)) ⟨p, ?_, rfl⟩
      rw [← w1.len]
      simp
    · simp only [if_neg hl] at q1; exact q1.elim
end

/-! ### built-ins by name -/
def RCM (K : Frag) (g : List Vl → M Vl) : List V → Hp → VK → Prop := fun vs H Q => ∃ F m G S xs, Wd K F m G S H ∧ RepVs K F m xs vs ∧ res K (rV K) F m G (g xs S) Q
abbrev CallM (X : Cx) (f : Value) (g : List Vl → M Vl) : Prop := CallR X f (RCM X.K g)
def eCB (g : List Vl → M Vl) (fs : Env → M (List Vl)) : Env → M Vl := fun ρ => bnd (fs ρ) g
theorem tCB_of {g : List Vl → M Vl} {fs : Env → M (List Vl)} {K : Frag} {σ : L2.St} {H : Hp} {Q : VK} (hw : tE K (eCB g fs) σ H Q) : tCB (RCM K g) (tA K fs) σ H Q := by
  obtain ⟨F, m, G, S, ρ, w, r, z⟩ := hw
  refine rd_mono (rd_bnd (A := rVs K) w r z) fun vs H1 ⟨F1, m1, S1, xs, e1, w1, r1, ra, q1⟩ => ?_
  exact ⟨F1, m1, G, S1, xs, w1, ra, q1⟩
section
variable {X : Cx} {x : Str} {p pos : Pos} {e : Expr} {es : List Expr} {fs : Env → M (List Vl)} {id T : String} {g : List Vl → M Vl}
theorem me_callB (hc : CallM X (.builtin id) g) (hg : Gl X x) (hm : X.mg x = none) (hv : bootBuiltins x = some (.builtin id)) (ha : MA X (e :: es) fs) (hn : x ≠ "__name__" := by decide) (hdb : (x == ("__debug__" : Str)) = false := by decide)
    (he : starEach (e :: es) X.env = (false, eval e X.env) :: starEach es X.env := by rfl) (hpl : (backTo pos (starEach es X.env)).any (·.1) = false := by rfl) : ME X (.Call (.Name x p) (e :: es) [] pos) (eCB g fs) :=
  PE.imp (pe_callB hc hg hm hv ha hn hdb he hpl) fun _ _ _ => tCB_of
theorem me_callTy (hc : CallM X (.type T) g) (hg : Gl X x) (hm : X.mg x = none) (hv : bootBuiltins x = some (.type T)) (ha : MA X (e :: es) fs) (hn : x ≠ "__name__" := by decide) (hdb : (x == ("__debug__" : Str)) = false := by decide)
    (he : starEach (e :: es) X.env = (false, eval e X.env) :: starEach es X.env := by rfl) (hpl : (backTo pos (starEach es X.env)).any (·.1) = false := by rfl) : ME X (.Call (.Name x p) (e :: es) [] pos) (eCB g fs) :=
  PE.imp (pe_callTy hc hg hm hv ha hn hdb he hpl) fun _ _ _ => tCB_of
end

/-! ### own defs -/
/-- a def's promise by its meaning -/
def spM (K : Frag) (n : Nat) (φ : List Vl → M Vl) : Sp := fun vs H Q _ => vs.length = n ∧ ∃ F m G S xs, Wd K F m G S H ∧ RepVs K F m xs vs ∧ res K (rV K) F m G (φ xs S) Q
def eCall (φ : List Vl → M Vl) (fs : Env → M (List Vl)) : Env → M Vl := fun ρ => bnd (fs ρ) φ
theorem tCall_of {n : Nat} {φ : List Vl → M Vl} {fs : Env → M (List Vl)} {K : Frag} {E : XK} {σ : L2.St} {H : Hp} {Q : VK} (hl : ∀ ρ S xs S', fs ρ S = .ok xs S' → xs.length = n) (hw : tE K (eCall φ fs) σ H Q) : tCall (spM K n φ) [] E (tA K fs) σ H Q := by
  obtain ⟨F, m, G, S, ρ, w, r, z⟩ := hw
  unfold tCall
  refine ⟨F, m, G, S, ρ, w, r, ?_⟩
  unfold eCall bnd at z
  cases q : fs ρ S with
  | err => rw [q] at z; exact z.elim
  | no => rw [q] at z; exact z.elim
  | ok xs S1 =>
    rw [q] at z
    intro F1 m1 H1 vs e1 w1 ra
    rw [List.append_nil]
    exact ⟨by rw [← ra.length]; exact hl ρ S xs S1 q, F1, m1, G, S1, xs, w1, ra, res_ext e1 z⟩
/-- a list of arguments of a known length -/
structure Ln (fs : Env → M (List Vl)) (n : Nat) : Prop where
  ln : ∀ ρ S xs S', fs ρ S = .ok xs S' → xs.length = n
theorem ln_nil : Ln aNil 0 := ⟨fun ρ S xs S' h => by cases h; rfl⟩
theorem ln_cons {f : Env → M Vl} {fs : Env → M (List Vl)} {n : Nat} (h : Ln fs n) : Ln (aCons f fs) (n + 1) := ⟨fun ρ S xs S' q => by
  unfold aCons bnd at q
  cases e : f ρ S with
  | err => rw [e] at q; cases q
  | no => rw [e] at q; cases q
  | ok x S1 =>
    rw [e] at q
    simp only [] at q
    cases e2 : fs ρ S1 with
    | err => rw [e2] at q; cases q
    | no => rw [e2] at q; cases q
    | ok ys S2 =>
      rw [e2] at q
      cases q
      exact congrArg (· + 1) (h.ln ρ S1 ys _ e2)⟩
section
variable {X : Cx} {x : Str} {p pos : Pos} {e : Expr} {es : List Expr} {fs : Env → M (List Vl)} {k n : Nat} {f : Addr} {fd : FuncData} {ps : List Str} {φ : List Vl → M Vl}
theorem me_call (G : FnOk X.prog X.w X.K X.mg X.base CX0 k f fd ps (spM X.K n φ)) (hr : Room k X.A) (hg : Gl X x) (hm : X.mg x = some (.ref f)) (hk : PySem.W.keepIn X.K (.ref f) = true) (hb : Binds X.K fd ps []) (ha : MA X (e :: es) fs) (hl : Ln fs n)
    (hdb : (x == ("__debug__" : Str)) = false := by decide) (he : starEach (e :: es) X.env = (false, eval e X.env) :: starEach es X.env := by rfl) (hpl : (backTo pos (starEach es X.env)).any (·.1) = false := by rfl) :
    ME X (.Call (.Name x p) (e :: es) [] pos) (eCall φ fs) := PE.imp (pe_call G hr hg hm hk hb .nil pass0 ha hdb he hpl) fun _ _ _ => tCall_of hl.ln
end
end Dz

/-! Dz3: statements, loops, comprehensions, a def's body. -/
namespace Dz
open PySem PySem.Spec PyProof.Rows L2
section
variable {X : Cx} {st : Stmt} {rest : List Stmt} {s t : Env → M Out} {e : Expr} {f : Env → M Vl} {p : Env → M Bool} {pos : Pos}
def sNext : Env → M Out := fun ρ => pur (.nx ρ)
def sSeq (s t : Env → M Out) : Env → M Out := fun ρ => bnd (s ρ) fun o => match o with
  | .nx ρ' => t ρ'
  | o => pur o
theorem ms_nil : MSs X [] sNext := PSs.imp pss_nil fun D σ H ⟨F, m, G, S, ρ, w, r, z⟩ => z F m H (Ext.refl _ _) w σ r
theorem outS_mono {K : Frag} {D D' : Ends} {F : Hp} {m : List Addr} {H : Hp} {o : Out} (h : outS K D F m H o) (hn : ∀ σ, D.nx σ H → D'.nx σ H) (hr : ∀ v, D.rt v H → D'.rt v H) (hb : ∀ σ, D.bk σ H → D'.bk σ H) (hc : ∀ σ, D.ct σ H → D'.ct σ H) : outS K D' F m H o := by
  cases o with
  | nx ρ => exact fun σ r => hn σ (h σ r)
  | rt x => exact fun v r => hr v (h v r)
  | bk ρ => exact fun σ r => hb σ (h σ r)
  | ct ρ => exact fun σ r => hc σ (h σ r)
theorem ms_cons (h1 : MS X st s) (h2 : MSs X rest t) : MSs X (st :: rest) (sSeq s t) := PSs.imp (pss_cons h1 h2) fun D σ H ⟨F, m, G, S, ρ, w, r, z⟩ => by
  refine ⟨F, m, G, S, ρ, w, r, ?_⟩
  unfold sSeq bnd at z
  cases q : s ρ S with
  | err => rw [q] at z; exact z
  | no => rw [q] at z; exact z
  | ok o S1 =>
    rw [q] at z
    intro F1 m1 H1 e1 w1
    cases o with
    | nx ρ1 => exact fun σ1 r1 => ⟨F1, m1, G, S1, ρ1, w1, r1, resS_ext e1 z⟩
    | rt x => exact fun v rv => z F1 m1 H1 e1 w1 v rv
    | bk ρ1 => exact fun v rv => z F1 m1 H1 e1 w1 v rv
    | ct ρ1 => exact fun v rv => z F1 m1 H1 e1 w1 v rv
theorem ms_one (h1 : MS X st s) : MSs X [st] s := pss_one h1
def sRet (f : Env → M Vl) : Env → M Out := fun ρ => bnd (f ρ) fun x => pur (.rt x)
theorem ms_ret (h : ME X e f) : MS X (.Return (some e) pos) (sRet f) := PS.imp (ps_ret h) fun D σ H ⟨F, m, G, S, ρ, w, r, z⟩ => by
  refine rd_mono (rd_bndS (A := rV X.K) w r z) fun x H1 ⟨F1, m1, S1, a1, e1, w1, r1, ra, q1⟩ => ?_
  exact q1 F1 m1 H1 (Ext.refl _ _) w1 x ra
def sIf (p : Env → M Bool) (s t : Env → M Out) : Env → M Out := fun ρ => bnd (p ρ) fun k => match k with
  | true => s ρ
  | false => t ρ
theorem ms_if {c : Expr} {a b : List Stmt} (hc : MT X c p) (ha : MSs X a s) (hb : MSs X b t) : MS X (.If c a b pos) (sIf p s t) := PS.imp (ps_if hc ha hb) fun D σ H ⟨F, m, G, S, ρ, w, r, z⟩ => by
  refine rd_mono (rd_bndS (A := rB) w r z) fun x H1 ⟨F1, m1, S1, k, e1, w1, r1, ra, q1⟩ => ?_
  subst ra
  cases k with
  | true => rw [if_pos rfl]; exact ⟨F1, m1, G, S1, ρ, w1, r1, q1⟩
  | false => rw [if_neg Bool.false_ne_true]; exact ⟨F1, m1, G, S1, ρ, w1, r1, q1⟩
def sSet (i : Nat) (f : Env → M Vl) : Env → M Out := fun ρ => bnd (f ρ) fun x => pur (.nx (ρ.set i (some x)))
theorem ms_set {i : Nat} {x : Str} {pos' : Pos} (hN : X.N.Nodup) (hi : X.N[i]? = some x) (hx : Loc X.env.scope x) (he : ME X e f) (hs : swapsWith e (some (.Name x pos')) pos.line X.env = pure false := by rfl) (hf : X.fn x = true ∨ X.env.scope.names.lookup x = some .local := by first | exact .inl rfl | exact .inr rfl | assumption) :
    MS X (.Assign [.Name x pos'] e pos) (sSet i f) := PS.imp (ps_set hN hi hx he hs hf) fun D σ H ⟨F, m, G, S, ρ, w, r, z⟩ => by
  refine rd_mono (rd_bndS (A := rV X.K) w r z) fun v H1 ⟨F1, m1, S1, a1, e1, w1, r1, ra, q1⟩ => ?_
  exact q1 F1 m1 H1 (Ext.refl _ _) w1 _ (r1.set ra i)
def sDrop (f : Env → M Vl) : Env → M Out := fun ρ => bnd (f ρ) fun _ => pur (.nx ρ)
theorem ms_expr (he : ME X e f) (hs : swapsWith e none pos.line X.env = pure false := by rfl) : MS X (.Expr e pos) (sDrop f) := PS.imp (ps_expr he hs) fun D σ H ⟨F, m, G, S, ρ, w, r, z⟩ => by
  refine rd_mono (rd_bndS (A := rV X.K) w r z) fun v H1 ⟨F1, m1, S1, a1, e1, w1, r1, ra, q1⟩ => ?_
  exact q1 F1 m1 H1 (Ext.refl _ _) w1 _ r1
/-! ### xs[i] = e, xs a cell -/
def setC (o i v : Vl) : M Unit := fun S => match o, i, v with
  | .c n, .d (.int k), .d y => match S[n]? with
    | some (.lst xs) => match ixN xs.length k with
      | some j => .ok () (S.set n (.lst (xs.set j y)))
      | none => .no
    | _ => .no
  | _, _, _ => .no
theorem setC_ok {o i v : Vl} {S S' : Sto} {u : Unit} (h : setC o i v S = .ok u S') : ∃ n k y xs j, o = .c n ∧ i = .d (.int k) ∧ v = .d y ∧ S[n]? = some (.lst xs) ∧ ixN xs.length k = some j ∧ S' = S.set n (.lst (xs.set j y)) := by
  unfold setC at h
  split at h
  · rename_i n k y
    split at h
    · rename_i xs hx
      split at h
      · rename_i j hj
        cases h
        exact ⟨n, k, y, xs, j, rfl, rfl, rfl, hx, hj, rfl⟩
      · cases h
    · cases h
  · cases h
def sPut (fo fi f : Env → M Vl) : Env → M Out := fun ρ => bnd (f ρ) fun v => bnd (fo ρ) fun o => bnd (fi ρ) fun i => bnd (setC o i v) fun _ => pur (.nx ρ)
theorem ms_put {o i : Expr} {fo fi : Env → M Vl} {p' : Pos} (he : ME X e f) (ho : ME X o fo) (hi : ME X i fi)
    (ha : ∀ v, assign (.Subscript o i p') X.env v = (do
      let ov ← holding [v] (eval o X.env)
      let iv ← holding [v, ov] (eval i X.env)
      standAt p'
      holding [v, ov, iv] (setItem ov iv v)
      release [v, ov, iv] []) := by intro _; rfl)
    (hs : swapsWithSole [.Subscript o i p'] e pos.line X.env = pure false := by rfl) (hw : swappedStores [.Subscript o i p'] e X.env = pure none := by rfl)
    (h1 : (assignEach [.Subscript o i p'] X.env).map (·.2) = [assign (.Subscript o i p') X.env] := by rfl) : MS X (.Assign [.Subscript o i p'] e pos) (sPut fo fi f) :=
  PS.imp (ps_asg he (pg_sub ho hi set_list ha) hs hw h1) fun D σ H ⟨F, m, G, S, ρ, w, r, z⟩ => by
  refine rd_mono (rd_bndS (A := rV X.K) w r z) fun v H1 ⟨F1, m1, S1, a1, e1, w1, r1, ra, q1⟩ => ?_
  refine rd_mono (rd_bndS (A := rV X.K) w1 r1 q1) fun ov H2 ⟨F2, m2, S2, a2, e2, w2, r2, rb, q2⟩ => ?_
  refine rd_mono (rd_bndS (A := rV X.K) w2 r2 q2) fun iv H3 ⟨F3, m3, S3, a3, e3, w3, r3, rc, q3⟩ => ?_
  have rb := rb.mono e3
  have ra := ra.mono (e2.trans e3)
  unfold bnd at q3
  cases q : setC a2 a3 a1 S3 with
  | err => rw [q] at q3; exact q3.elim
  | no => rw [q] at q3; exact q3.elim
  | ok u S4 =>
    rw [q] at q3
    obtain ⟨n, k, y, xs, j, rfl, rfl, rfl, hx, hj, rfl⟩ := setC_ok q
    obtain ⟨a, hm, rfl⟩ := rb
    cases rc
    obtain ⟨oo, ho, rr⟩ := w3.cells n a _ hm hx
    cases rr with
    | lst rs =>
      refine ⟨a, _, k, j, rfl, rfl, ho, by rw [← rs.length]; exact hj, ?_⟩
      exact q3 F3 m3 _ (Ext.refl _ _) (w3.write hm (.lst (rs.set ra j))) σ r3
end

/-! ### what is walked -/
/-- J yields the data ds in a row, wherever F stands -/
structure Walk (K : Frag) (F : Hp) (J : It) (ds : List D) : Prop where
  go : ∀ (i : Nat) (H : Hp), Same F H → i < ds.length → J.go i H
  yld : ∀ (i : Nat) (H : Hp) (x : V) (H' : Hp), Same F H → i < ds.length → J.yld i H x H' → H' = H ∧ ∃ d, ds[i]? = some d ∧ Rep K F d x
  stop : ∀ (i : Nat) (H : Hp), Same F H → ds.length ≤ i → J.stop i H
def tI (K : Frag) (f : Env → M (List D)) : TI := fun σ H Rr => ∃ F m G S ρ, Wd K F m G S H ∧ RepE K F m ρ σ ∧ res K (fun F m ds J => Walk K F J ds) F m G (f ρ S) Rr
abbrev MI (X : Cx) (tg iter : Expr) (f : Env → M (List D)) : Prop := PI X tg iter (tI X.K f)
theorem PI.imp {X : Cx} {tg e : Expr} {t t' : TI} (h : PI X tg e t) (i : ∀ σ H Q, t' σ H Q → t σ H Q) : PI X tg e t' := ⟨fun pins s σ H Q I q => h.run pins s σ H Q I (i σ H Q q)⟩
section
variable {X : Cx} {tg e : Expr} {f : Env → M Vl}
/-- lists and tuples that are data -/
def itL (x : Vl) : M (List D) := match x with
  | .d (.lst ds) => pur ds
  | .d (.scr ns) => pur (ns.map D.int)
  | _ => stuck
def itT (x : Vl) : M (List D) := match x with
  | .d (.tup ds) => pur ds
  | _ => stuck
def iOf (g : Vl → M (List D)) (f : Env → M Vl) : Env → M (List D) := fun ρ => bnd (f ρ) g
theorem seq_walk {K : Frag} {F : Hp} {a : Addr} {vs : List V} {ds : List D} (h : SqL K F a vs) (r : Reps K F ds vs) : Walk K F (Itl K a) ds where
  go := fun i H s hi => by
    obtain ⟨v, hv, _⟩ := r.get (i := i) (d := ds[i]) (List.getElem?_eq_getElem hi)
    exact ⟨vs, v, s.seq h, hv⟩
  yld := fun i H x H' s hi y => by
    obtain ⟨rfl, y⟩ := y
    obtain ⟨d, hd, rr⟩ := r.get' (y vs (s.seq h))
    exact ⟨rfl, d, hd, rr⟩
  stop := fun i H s hi => ⟨vs, s.seq h, by rw [← r.length]; exact hi⟩
theorem tup_walk {K : Frag} {F : Hp} {a : Addr} {vs : List V} {ds : List D} (h : SqT K F a vs) (r : Reps K F ds vs) : Walk K F (Itt K a) ds where
  go := fun i H s hi => by
    obtain ⟨v, hv, _⟩ := r.get (i := i) (d := ds[i]) (List.getElem?_eq_getElem hi)
    exact ⟨vs, v, sqT_mono s h, hv⟩
  yld := fun i H x H' s hi y => by
    obtain ⟨rfl, y⟩ := y
    obtain ⟨d, hd, rr⟩ := r.get' (y vs (sqT_mono s h))
    exact ⟨rfl, d, hd, rr⟩
  stop := fun i H s hi => ⟨vs, sqT_mono s h, by rw [← r.length]; exact hi⟩
theorem mi_list (h : ME X e f) : MI X tg e (iOf itL f) := PI.imp (pi_list h) fun σ H Rr ⟨F, m, G, S, ρ, w, r, z⟩ => by
  refine rd_mono (rd_bnd (A := rV X.K) (B := fun F m ds J => Walk X.K F J ds) w r z) fun v H1 ⟨F1, m1, S1, a1, e1, w1, r1, ra, q1⟩ => ?_
  unfold itL at q1
  split at q1
  · cases ra with
    | lst ha rs => exact ⟨_, rfl, ⟨_, w1.sub.seq (SqL.of ha)⟩, res_ok (A := fun F m ds J => Walk X.K F J ds) w1 (seq_walk (SqL.of ha) rs) q1⟩
  · cases ra with
    | scr ha => exact ⟨_, rfl, ⟨_, w1.sub.seq ha⟩, res_ok (A := fun F m ds J => Walk X.K F J ds) w1 (seq_walk ha (reps_ints _ _ _)) q1⟩
  · exact q1.elim
theorem mi_tup (h : ME X e f) : MI X tg e (iOf itT f) := PI.imp (pi_tup h) fun σ H Rr ⟨F, m, G, S, ρ, w, r, z⟩ => by
  refine rd_mono (rd_bnd (A := rV X.K) (B := fun F m ds J => Walk X.K F J ds) w r z) fun v H1 ⟨F1, m1, S1, a1, e1, w1, r1, ra, q1⟩ => ?_
  unfold itT at q1
  split at q1
  · cases ra with
    | tup ha rs => exact ⟨_, rfl, ⟨_, sqT_mono w1.sub ha⟩, res_ok (A := fun F m ds J => Walk X.K F J ds) w1 (tup_walk ha rs) q1⟩
  · exact q1.elim
/-- a text's signs -/
def signs (z : Str) : List D := z.cps.toList.map fun c => D.str ⟨#[c]⟩
def itS (x : Vl) : M (List D) := match x with
  | .d (.str z) => pur (signs z)
  | _ => stuck
theorem str_walk {K : Frag} {F : Hp} (z : Str) : Walk K F (Its z) (signs z) where
  go := fun i H s hi => by
    unfold signs at hi
    rw [List.length_map, Array.length_toList] at hi
    exact hi
  yld := fun i H x H' s hi y => by
    obtain ⟨rfl, c, hc, rfl⟩ := y
    refine ⟨rfl, .str ⟨#[c]⟩, ?_, .str _⟩
    unfold signs
    rw [List.getElem?_map, Array.getElem?_toList, hc]
    rfl
  stop := fun i H s hi => by
    unfold signs at hi
    rw [List.length_map, Array.length_toList] at hi
    exact hi
theorem mi_str (h : ME X e f) : MI X tg e (iOf itS f) := PI.imp (pi_str h) fun σ H Rr ⟨F, m, G, S, ρ, w, r, z⟩ => by
  refine rd_mono (rd_bnd (A := rV X.K) (B := fun F m ds J => Walk X.K F J ds) w r z) fun v H1 ⟨F1, m1, S1, a1, e1, w1, r1, ra, q1⟩ => ?_
  unfold itS at q1
  split at q1
  · cases ra
    exact ⟨_, rfl, res_ok (A := fun F m ds J => Walk X.K F J ds) w1 (str_walk _) q1⟩
  · exact q1.elim
/-- ranges -/
def dInts (lo : Int) (n : Nat) : List D := (List.range n).map fun (i : Nat) => D.int (lo + (i : Int))
def itR (xs : List Vl) : M (List D) := match xs with
  | [.d (.int j)] => if -(2 ^ 62) ≤ j ∧ j < 2 ^ 62 then pur (dInts 0 j.toNat) else stuck
  | [.d (.int i), .d (.int j)] => if (-(2 ^ 62) ≤ i ∧ i < 2 ^ 62) ∧ -(2 ^ 62) ≤ j ∧ j < 2 ^ 62 then pur (dInts i (j - i).toNat) else stuck
  | _ => stuck
def iRg (fs : Env → M (List Vl)) : Env → M (List D) := fun ρ => bnd (fs ρ) itR
theorem ints_walk {K : Frag} {F : Hp} (lo : Int) (n : Nat) : Walk K F (Itr lo n) (dInts lo n) where
  go := fun i H s hi => by
    unfold dInts at hi
    rw [List.length_map, List.length_range] at hi
    exact hi
  yld := fun i H x H' s hi y => by
    obtain ⟨rfl, rfl⟩ := y
    unfold dInts at hi ⊢
    rw [List.length_map, List.length_range] at hi
    refine ⟨rfl, .int (lo + (i : Int)), ?_, .int _⟩
    rw [List.getElem?_map, List.getElem?_range hi]
    rfl
  stop := fun i H s hi => by
    unfold dInts at hi
    rw [List.length_map, List.length_range] at hi
    exact hi
theorem mi_range1 {a : Expr} {fs : Env → M (List Vl)} {p pos : Pos} (hg : Gl X "range") (hm : X.mg "range" = none) (ha : MA X [a] fs) (hl : Ln fs 1) (hs : starEach [a] X.env = [(false, eval a X.env)] := by rfl) : MI X tg (.Call (.Name "range" p) [a] [] pos) (iRg fs) :=
  PI.imp (pi_range1 hg hm ha hs) fun σ H Rr ⟨F, m, G, S, ρ, w, r, z⟩ => by
  refine ⟨F, m, G, S, ρ, w, r, ?_⟩
  unfold iRg bnd at z
  cases q : fs ρ S with
  | err => rw [q] at z; exact z.elim
  | no => rw [q] at z; exact z.elim
  | ok xs S1 =>
    rw [q] at z
    have l1 := hl.ln ρ S xs S1 q
    intro F1 m1 H1 vs e1 w1 ra
    replace z : res X.K (fun F m ds J => Walk X.K F J ds) F m G (itR xs S1) Rr := z
    unfold itR at z
    split at z
    · rename_i j
      cases ra with
      | cons r1 r2 =>
        cases r2
        cases r1
        split at z
        · rename_i hj
          exact ⟨j, rfl, hj.1, hj.2, res_ok (A := fun F m ds J => Walk X.K F J ds) w1 (ints_walk 0 j.toNat) (res_ext e1 z)⟩
        · exact z.elim
    · cases l1
    · exact z.elim
theorem mi_range2 {a b : Expr} {fs : Env → M (List Vl)} {p pos : Pos} (hg : Gl X "range") (hm : X.mg "range" = none) (ha : MA X [a, b] fs) (hl : Ln fs 2) (hs : starEach [a, b] X.env = [(false, eval a X.env), (false, eval b X.env)] := by rfl) (hs2 : starEach [b] X.env = [(false, eval b X.env)] := by rfl) :
    MI X tg (.Call (.Name "range" p) [a, b] [] pos) (iRg fs) :=
  PI.imp (pi_range2 hg hm ha hs hs2) fun σ H Rr ⟨F, m, G, S, ρ, w, r, z⟩ => by
  refine ⟨F, m, G, S, ρ, w, r, ?_⟩
  unfold iRg bnd at z
  cases q : fs ρ S with
  | err => rw [q] at z; exact z.elim
  | no => rw [q] at z; exact z.elim
  | ok xs S1 =>
    rw [q] at z
    have l1 := hl.ln ρ S xs S1 q
    intro F1 m1 H1 vs e1 w1 ra
    replace z : res X.K (fun F m ds J => Walk X.K F J ds) F m G (itR xs S1) Rr := z
    unfold itR at z
    split at z
    · cases l1
    · rename_i i j
      cases ra with
      | cons r1 r2 =>
        cases r2 with
        | cons r2 r3 =>
          cases r3
          cases r1
          cases r2
          split at z
          · rename_i hj
            exact ⟨i, j, rfl, ⟨hj.1.1, hj.1.2, hj.2.1, hj.2.2⟩, res_ok (A := fun F m ds J => Walk X.K F J ds) w1 (ints_walk i (j - i).toNat) (res_ext e1 z)⟩
          · exact z.elim
    · exact z.elim
end

/-! ### targets of loops and comprehensions: a name, names in brackets -/
inductive Tgt where
  | one (i : Nat) | tup (is : List Nat)
def gSlots : List Nat → TGs
  | [] => gNil
  | i :: is => gCons (gName i) (gSlots is)
def Tgt.tg (K : Frag) : Tgt → TG
  | .one i => gName i
  | .tup is => gTup K is.length (gSlots is)
def Tgt.slots : Tgt → List Nat
  | .one i => [i]
  | .tup is => is
def setAll : List Nat → List D → Env → Env
  | i :: is, d :: ds, ρ => setAll is ds (ρ.set i (some (.d d)))
  | _, _, ρ => ρ
def gSet (t : Tgt) (d : D) (ρ : Env) : M Env := match t, d with
  | .one i, d => pur (ρ.set i (some (.d d)))
  | .tup is, .tup ds => if ds.length = is.length then pur (setAll is ds ρ) else stuck
  | .tup _, _ => stuck
abbrev MG (X : Cx) (tg : Expr) (t : Tgt) : Prop := PG X tg (t.tg X.K)
theorem wipe_set {σ : L2.St} {i : Nat} {x : Option V} : ∀ {vs : List Nat}, i ∈ vs → wipe (σ.set i x) vs = wipe σ vs
  | v :: vs, h => by
    unfold wipe
    by_cases hv : i = v
    · subst hv
      by_cases hm : i ∈ vs
      · rw [wipe_set hm]
      · clear h
        induction vs with
        | nil => simp [wipe]
        | cons u us ih =>
          have hu : i ≠ u := fun z => hm (by simp [z])
          have hs : i ∉ us := fun z => hm (by simp [z])
          unfold wipe
          rw [List.set_comm _ _ (fun z => hu z.symm), ih hs, List.set_comm _ _ hu]
    · have hm : i ∈ vs := by
        rcases List.mem_cons.mp h with z | z
        · exact absurd z hv
        · exact z
      rw [wipe_set hm]
section
variable {K : Frag} {F G H : Hp} {m : List Addr} {S : Sto}
theorem slots_of {vs0 : List Nat} : ∀ {is : List Nat} {ds : List D} {vs : List V} {ρ : Env} {σ : L2.St} {Q : L2.St → Hp → Prop}, Reps K F ds vs → ds.length = is.length → RepE K F m ρ σ →
    (∀ σ2, RepE K F m (setAll is ds ρ) σ2 → (∀ ws : List Nat, (∀ i ∈ is, i ∈ ws) → wipe σ2 ws = wipe σ ws) → Q σ2 H) → gSlots is vs σ H Q
  | [], _, _, ρ, σ, Q, .nil, _, r, h => ⟨rfl, h σ (by unfold setAll; exact r) fun _ _ => rfl⟩
  | i :: is, _, _, ρ, σ, Q, .cons (d := d) (v := v) rd rs, hl, r, h => by
    refine ⟨v, _, rfl, ?_⟩
    refine slots_of (vs0 := vs0) rs (by simpa using hl) (RepE.set r (x := .d d) rd i) fun σ2 r2 hw => h σ2 (by unfold setAll; exact r2) fun ws hs => ?_
    rw [hw ws fun j hj => hs j (List.mem_cons_of_mem _ hj), wipe_set (hs i List.mem_cons_self)]
theorem tgt_of {t : Tgt} {d : D} {v : V} {ρ ρ1 : Env} {σ : L2.St} {S1 : Sto} {Q : L2.St → Hp → Prop} (w : Wd K F m G S H) (rd : Rep K F d v) (r : RepE K F m ρ σ) (hg : gSet t d ρ S = .ok ρ1 S1)
    (h : ∀ σ2, RepE K F m ρ1 σ2 → (∀ ws : List Nat, (∀ i ∈ t.slots, i ∈ ws) → wipe σ2 ws = wipe σ ws) → S1 = S → Q σ2 H) : t.tg K v σ H Q := by
  unfold gSet at hg
  split at hg
  · cases hg
    exact h _ (RepE.set r (x := .d d) rd _) (fun ws hs => wipe_set (hs _ (by simp [Tgt.slots]))) rfl
  · rename_i is ds
    split at hg
    · rename_i hl
      cases hg
      cases rd with
      | tup ht rs => exact ⟨_, _, rfl, sqT_mono w.sub ht, by rw [← rs.length]; exact hl, slots_of (vs0 := []) rs hl r fun σ2 r2 hw => h σ2 r2 hw rfl⟩
    · cases hg
  · cases hg
theorem gSet_no {t : Tgt} {d : D} {ρ : Env} {S : Sto} : (∃ ρ1, gSet t d ρ S = .ok ρ1 S) ∨ gSet t d ρ S = .no := by
  unfold gSet
  split
  · exact .inl ⟨_, rfl⟩
  · split
    · exact .inl ⟨_, rfl⟩
    · exact .inr rfl
  · exact .inr rfl
end
section
variable {X : Cx} {pos : Pos}
theorem mg_name {i : Nat} {x : Str} (hN : X.N.Nodup) (hi : X.N[i]? = some x) (hx : Loc X.env.scope x) (hf : X.fn x = true ∨ X.env.scope.names.lookup x = some .local := by first | exact .inl rfl | exact .inr rfl | assumption) : MG X (.Name x pos) (.one i) := pg_name hN hi hx hf
abbrev MGs (X : Cx) (es : List Expr) (is : List Nat) : Prop := PGs X es (gSlots is)
theorem mgs_nil : MGs X [] [] := pgs_nil
theorem mgs_cons {e : Expr} {es : List Expr} {i : Nat} {is : List Nat} (h1 : MG X e (.one i)) (h2 : MGs X es is) (hs : (assignEach (e :: es) X.env).map (·.2) = assign e X.env :: (assignEach es X.env).map (·.2) := by rfl) : MGs X (e :: es) (i :: is) := pgs_cons h1 h2 hs
theorem mg_tup {es : List Expr} {is : List Nat} {k : Nat} (hc : X.calm = true) (h : MGs X es is) (hn : (assignEach es X.env).length = is.length := by rfl) (hst : (assignEach es X.env).findIdx? (·.1) = none := by rfl) : MG X (.Tuple es k pos) (.tup is) := pg_tup hc h hn hst
end

/-! ### for -/
def forL (t : Tgt) (s : Env → M Out) : List D → Env → M Out
  | [], ρ => pur (.nx ρ)
  | d :: ds, ρ => bnd (gSet t d ρ) fun ρ1 => bnd (s ρ1) fun o => match o with
    | .nx ρ2 => forL t s ds ρ2
    | .ct ρ2 => forL t s ds ρ2
    | .bk ρ2 => pur (.nx ρ2)
    | .rt x => pur (.rt x)
def sFor (f : Env → M (List D)) (t : Tgt) (s : Env → M Out) : Env → M Out := fun ρ => bnd (f ρ) fun ds => forL t s ds ρ
section
variable {X : Cx} {tg iter : Expr} {body : List Stmt} {pos : Pos} {f : Env → M (List D)} {t : Tgt} {s : Env → M Out}
theorem ms_for (hp : PassesOwn (model X.prog X.w) X.A X.env X.xe) (hc : X.calm = true) (hi : MI X tg iter f) (hg : MG X tg t) (hb : MSs X body s) (hs : ∀ x, foldedSetIterable iter X.env x = pure x := by intro _; rfl) :
    MS X (.For tg iter body [] pos) (sFor f t s) := PS.imp (ps_for hp hc hi hg hb hs) fun D σ H ⟨F, m, G, S, ρ, w, r, z⟩ => by
  refine ⟨F, m, G, S, ρ, w, r, ?_⟩
  unfold sFor bnd at z
  cases q : f ρ S with
  | err => rw [q] at z; exact z
  | no => rw [q] at z; exact z
  | ok ds S0 =>
    rw [q] at z
    intro F0 m0 H0 J e0 w0 wk
    have z := resS_ext e0 z
    -- the invariant: from the turn i on, the rest of the data runs to what is wanted
    refine ⟨fun i k σ1 H1 => k = ds.length - i ∧ i ≤ ds.length ∧ ∃ F1 m1 S1 ρ1, Ext F0 F1 m0 m1 ∧ Wd X.K F1 m1 G S1 H1 ∧ RepE X.K F1 m1 ρ1 σ1 ∧ resS X.K D F1 m1 G (forL t s (ds.drop i) ρ1 S1),
      ⟨ds.length, by simp, Nat.zero_le _, F0, m0, S0, ρ, Ext.refl _ _, w0, r.mono e0, by rw [List.drop_zero]; exact z⟩, ?_⟩
    rintro i k σ1 H1 ⟨rfl, hi, F1, m1, S1, ρ1, e1, w1, r1, z1⟩
    have sub : Same F0 H1 := e1.fro.trans w1.sub
    by_cases hlt : i < ds.length
    · rw [List.drop_eq_getElem_cons hlt] at z1
      unfold forL at z1
      refine .inr ⟨wk.go i H1 sub hlt, fun σ2 H2 => ∃ F2 m2 S2 ρ2, Ext F0 F2 m0 m2 ∧ Wd X.K F2 m2 G S2 H2 ∧ RepE X.K F2 m2 ρ2 σ2 ∧ resS X.K D F2 m2 G (forL t s (ds.drop (i + 1)) ρ2 S2),
        fun σ2 H2 ⟨F2, m2, S2, ρ2, e2, w2, r2, z2⟩ => ⟨ds.length - (i + 1), by omega, rfl, hlt, F2, m2, S2, ρ2, e2, w2, r2, z2⟩, fun x H' y => ?_⟩
      obtain ⟨rfl, d, hd, rd⟩ := wk.yld i H1 x H' sub hlt y
      have ed : ds[i] = d := by
        rw [List.getElem?_eq_getElem hlt] at hd
        exact Option.some.inj hd
      rw [ed] at z1
      unfold bnd at z1
      rcases gSet_no (t := t) (d := d) (ρ := ρ1) (S := S1) with ⟨ρ2, q1⟩ | q1
      · rw [q1] at z1
        refine tgt_of w1 (rd.mono e1.fro) r1 q1 fun σ2 r2 _ _ => ?_
        refine ⟨F1, m1, G, S1, ρ2, w1, r2, ?_⟩
        simp only [] at z1
        cases q2 : s ρ2 S1 with
        | err => rw [q2] at z1; exact z1
        | no => rw [q2] at z1; exact z1
        | ok o S3 =>
          rw [q2] at z1
          intro F3 m3 H3 e3 w3
          have z3 := resS_ext e3 z1
          cases o with
          | nx ρ3 => exact fun σ3 r3 => ⟨F3, m3, S3, ρ3, e1.trans e3, w3, r3, z3⟩
          | ct ρ3 => exact fun σ3 r3 => ⟨F3, m3, S3, ρ3, e1.trans e3, w3, r3, z3⟩
          | bk ρ3 => exact fun σ3 r3 => z3 F3 m3 H3 (Ext.refl _ _) w3 σ3 r3
          | rt v3 => exact fun σ3 r3 => z3 F3 m3 H3 (Ext.refl _ _) w3 σ3 r3
      · rw [q1] at z1; exact z1.elim
    · have ei : i = ds.length := by omega
      subst ei
      rw [List.drop_length] at z1
      exact .inl ⟨wk.stop _ H1 sub (Nat.le_refl _), z1 F1 m1 H1 (Ext.refl _ _) w1 σ1 r1⟩
end

/-! ### comprehensions -/
def asD (x : Vl) : M D := match x with
  | .d y => pur y
  | .c _ => stuck
/-- the slots of the block's own names are forgotten -/
def wipeE (ρ : Env) : List Nat → Env
  | [] => ρ
  | v :: vs => (wipeE ρ vs).set v none
theorem RepE.wipe {K : Frag} {F : Hp} {m : List Addr} {ρ : Env} {σ : L2.St} (h : RepE K F m ρ σ) : ∀ vs : List Nat, RepE K F m (wipeE ρ vs) (L2.wipe σ vs)
  | [] => h
  | v :: vs => RepE.unset (RepE.wipe h vs) v Option.none
def lcL (t : Tgt) (p : Env → M Bool) (f : Env → M Vl) (ρ : Env) : List D → M (List D)
  | [] => pur []
  | d :: ds => bnd (gSet t d ρ) fun ρ1 => bnd (p ρ1) fun b => match b with
    | true => bnd (f ρ1) fun x => bnd (asD x) fun y => bnd (lcL t p f ρ ds) fun ys => pur (y :: ys)
    | false => lcL t p f ρ ds
/-- a comprehension's data: a new list -/
def lcF (it : Env → M (List D)) (t : Tgt) (p : Env → M Bool) (f : Env → M Vl) (own : List Nat) : Env → M (List D) := fun ρ => bnd (it ρ) fun ds => if ds.length ≤ 100000 then lcL t p f (wipeE ρ own) ds else stuck
/-- the reading of a new list, by its data -/
def tNew (K : Frag) (f : Env → M (List D)) : TE := fun σ H Q => ∃ F m G S ρ, Wd K F m G S H ∧ RepE K F m ρ σ ∧ match f ρ S with
  | .ok ds S' => ∀ (F' : Hp) (m' : List Addr) (H' : Hp) (p : Addr) (vs : List V), Ext F F' m m' → Wd K F' m' (upd G p (.lst vs)) S' H' → G p = none → Reps K F' ds vs → Q (.ref p) H'
  | .err _ _ => False
  | .no => False
def sNew (ds : List D) : M Vl := pur (.d (.lst ds))
def sNewC (ds : List D) : M Vl := fun S => .ok (.c S.length) (S ++ [.lst ds])
def eNew (f : Env → M (List D)) : Env → M Vl := fun ρ => bnd (f ρ) sNew
def eNewC (f : Env → M (List D)) : Env → M Vl := fun ρ => bnd (f ρ) sNewC
abbrev MN (X : Cx) (e : Expr) (f : Env → M (List D)) : Prop := PE X e (tNew X.K f)
theorem tNew_fro {K : Frag} {f : Env → M (List D)} {σ : L2.St} {H : Hp} {Q : VK} (h : tE K (eNew f) σ H Q) : tNew K f σ H Q := by
  obtain ⟨F, m, G, S, ρ, w, r, z⟩ := h
  refine ⟨F, m, G, S, ρ, w, r, ?_⟩
  unfold eNew bnd at z
  cases q : f ρ S with
  | err => rw [q] at z; exact z
  | no => rw [q] at z; exact z
  | ok ds S1 =>
    rw [q] at z
    intro F1 m1 H1 p vs e1 w1 hG rs
    exact z _ m1 H1 _ (e1.trans (Ext.lay (w1.gF p _ upd_same))) (w1.freeze hG) (.lst upd_same (rs.mono (same_upd (w1.gF p _ upd_same))))
theorem tNew_cell {K : Frag} {f : Env → M (List D)} {σ : L2.St} {H : Hp} {Q : VK} (h : tE K (eNewC f) σ H Q) : tNew K f σ H Q := by
  obtain ⟨F, m, G, S, ρ, w, r, z⟩ := h
  refine ⟨F, m, G, S, ρ, w, r, ?_⟩
  unfold eNewC bnd at z
  cases q : f ρ S with
  | err => rw [q] at z; exact z
  | no => rw [q] at z; exact z
  | ok ds S1 =>
    rw [q] at z
    intro F1 m1 H1 p vs e1 w1 hG rs
    refine z _ _ H1 _ (e1.trans (Ext.cell p)) (w1.thaw hG (.lst rs)) ⟨p, ?_, rfl⟩
    rw [← w1.len]
    simp
theorem me_new {X : Cx} {e : Expr} {f : Env → M (List D)} (h : MN X e f) : ME X e (eNew f) := PE.imp h fun _ _ _ => tNew_fro
theorem me_newC {X : Cx} {e : Expr} {f : Env → M (List D)} (h : MN X e f) : ME X e (eNewC f) := PE.imp h fun _ _ _ => tNew_cell
/-- what is still to come: dn is done -/
def Rest (K : Frag) (G : Hp) (t : Tgt) (p : Env → M Bool) (f : Env → M Vl) (ρ : Env) (Q : VK) (F : Hp) (m : List Addr) (S : Sto) (dn ds : List D) : Prop := match lcL t p f ρ ds S with
  | .ok rs S' => ∀ (F' : Hp) (m' : List Addr) (H' : Hp) (q : Addr) (vs : List V), Ext F F' m m' → Wd K F' m' (upd G q (.lst vs)) S' H' → G q = none → Reps K F' (dn ++ rs) vs → Q (.ref q) H'
  | .err _ _ => False
  | .no => False
section
variable {K : Frag} {G : Hp} {t : Tgt} {p : Env → M Bool} {f : Env → M Vl} {ρ ρ2 : Env} {Q : VK} {F F1 : Hp} {m m1 : List Addr} {S : Sto} {dn ds : List D} {d : D}
theorem Rest.ext (e : Ext F F1 m m1) (h : Rest K G t p f ρ Q F m S dn ds) : Rest K G t p f ρ Q F1 m1 S dn ds := by
  unfold Rest at h ⊢
  cases q : lcL t p f ρ ds S with
  | err => rw [q] at h; exact h
  | no => rw [q] at h; exact h
  | ok rs S' => rw [q] at h; exact fun F' m' H' q vs e' => h F' m' H' q vs (e.trans e')
theorem Rest.fin (h : Rest K G t p f ρ Q F m S dn []) : ∀ (F' : Hp) (m' : List Addr) (H' : Hp) (q : Addr) (vs : List V), Ext F F' m m' → Wd K F' m' (upd G q (.lst vs)) S H' → G q = none → Reps K F' dn vs → Q (.ref q) H' := by
  unfold Rest at h
  unfold lcL pur at h
  simp only [List.append_nil] at h
  exact h
theorem Rest.dead (h : Rest K G t p f ρ Q F m S dn (d :: ds)) (q : gSet t d ρ S = .no) : False := by
  unfold Rest lcL bnd at h
  rw [q] at h
  exact h
theorem Rest.step (h : Rest K G t p f ρ Q F m S dn (d :: ds)) (q : gSet t d ρ S = .ok ρ2 S) : match p ρ2 S with
    | .ok true S2 => (match f ρ2 S2 with
      | .ok (.d y) S3 => Rest K G t p f ρ Q F m S3 (dn ++ [y]) ds
      | _ => False)
    | .ok false S2 => Rest K G t p f ρ Q F m S2 dn ds
    | _ => False := by
  unfold Rest lcL bnd at h
  rw [q] at h
  simp only [] at h
  cases q2 : p ρ2 S with
  | err => rw [q2] at h; exact h.elim
  | no => rw [q2] at h; exact h.elim
  | ok b S2 =>
    rw [q2] at h
    cases b with
    | false => exact h
    | true =>
      simp only [] at h ⊢
      cases q3 : f ρ2 S2 with
      | err => rw [q3] at h; exact h.elim
      | no => rw [q3] at h; exact h.elim
      | ok x S3 =>
        rw [q3] at h
        cases x with
        | c n => exact h.elim
        | d y =>
          unfold Rest
          simp only [asD, pur] at h ⊢
          cases q4 : lcL t p f ρ ds S3 with
          | err => rw [q4] at h; exact h.elim
          | no => rw [q4] at h; exact h.elim
          | ok rs S4 =>
            rw [q4] at h
            simp only [] at h
            intro F' m' H' q vs e w hG rr
            refine h F' m' H' q vs e w hG ?_
            rw [List.append_assoc] at rr
            exact rr
end
theorem wipe_wipe (σ : L2.St) (vs : List Nat) : L2.wipe (L2.wipe σ vs) vs = L2.wipe σ vs := by
  have key : ∀ (us : List Nat), (∀ i ∈ us, i ∈ vs) → L2.wipe (L2.wipe σ us) vs = L2.wipe σ vs := by
    intro us
    induction us with
    | nil => intro _; rfl
    | cons u us ih =>
      intro h
      show L2.wipe ((L2.wipe σ us).set u none) vs = _
      rw [wipe_set (h u List.mem_cons_self)]
      exact ih fun i hi => h i (List.mem_cons_of_mem _ hi)
  exact key vs fun _ h => h
theorem tLc_of {K : Frag} {it : Env → M (List D)} {t : Tgt} {p : Env → M Bool} {f : Env → M Vl} {own : List Nat} {σ : L2.St} {H : Hp} {Q : VK} (hs : ∀ i ∈ t.slots, i ∈ own) (h : tNew K (lcF it t p f own) σ H Q) : tLc (tI K it) (t.tg K) (tT K p) (tE K f) own σ H Q := by
  obtain ⟨F, m, G, S, ρ, w, r, z⟩ := h
  refine ⟨F, m, G, S, ρ, w, r, ?_⟩
  unfold lcF bnd at z
  cases q : it ρ S with
  | err => rw [q] at z; exact z
  | no => rw [q] at z; exact z
  | ok ds S0 =>
    rw [q] at z
    simp only [] at z
    by_cases hz : ds.length ≤ 100000
    case neg => rw [if_neg hz] at z; exact z.elim
    rw [if_pos hz] at z
    intro F0 m0 H0 J e0 w0 wk Dl hD
    have hG : G Dl = none := w0.gfresh hD
    refine ⟨fun i k H1 => k = ds.length - i ∧ i ≤ ds.length ∧ ∃ F1 m1 S1 dn vs, Ext F0 F1 m0 m1 ∧ Wd K F1 m1 (upd G Dl (.lst vs)) S1 H1 ∧ Reps K F1 dn vs ∧ dn.length ≤ i ∧ Rest K G t p f (wipeE ρ own) Q F1 m1 S1 dn (ds.drop i),
      ⟨ds.length, by simp, Nat.zero_le _, F0, m0, S0, [], [], Ext.refl _ _, w0.push hD _, .nil, Nat.le_refl _, by
        rw [List.drop_zero]
        unfold Rest
        cases q1 : lcL t p f (wipeE ρ own) ds S0 with
        | err => rw [q1] at z; exact z
        | no => rw [q1] at z; exact z
        | ok rs S1 =>
          rw [q1] at z
          exact fun F' m' H' p vs' e => z F' m' H' p vs' (e0.trans e)⟩, ?_⟩
    rintro i k H1 ⟨rfl, hi, F1, m1, S1, dn, vs, e1, w1, rs, hl, z1⟩
    have sub : Same F0 H1 := e1.fro.trans w1.sub
    by_cases hlt : i < ds.length
    · rw [List.drop_eq_getElem_cons hlt] at z1
      refine .inr ⟨wk.go i H1 sub hlt, fun H2 => ∃ F2 m2 S2 dn2 vs2, Ext F0 F2 m0 m2 ∧ Wd K F2 m2 (upd G Dl (.lst vs2)) S2 H2 ∧ Reps K F2 dn2 vs2 ∧ dn2.length ≤ i + 1 ∧ Rest K G t p f (wipeE ρ own) Q F2 m2 S2 dn2 (ds.drop (i + 1)),
        fun H2 ⟨F2, m2, S2, dn2, vs2, e2, w2, r2, l2, z2⟩ => ⟨ds.length - (i + 1), by omega, rfl, hlt, F2, m2, S2, dn2, vs2, e2, w2, r2, l2, z2⟩, fun x H' y => ?_⟩
      obtain ⟨rfl, d, hd, rd⟩ := wk.yld i H1 x H' sub hlt y
      have ed : ds[i] = d := by
        rw [List.getElem?_eq_getElem hlt] at hd
        exact Option.some.inj hd
      rw [ed] at z1
      have rw1 : RepE K F1 m1 (wipeE ρ own) (L2.wipe σ own) := (r.mono (e0.trans e1)).wipe own
      rcases gSet_no (t := t) (d := d) (ρ := wipeE ρ own) (S := S1) with ⟨ρ2, q1⟩ | q1
      · refine tgt_of w1 (rd.mono e1.fro) rw1 q1 fun σ2 r2 hw _ => ⟨(hw own hs).trans (wipe_wipe σ own), ?_⟩
        refine ⟨F1, m1, upd G Dl (.lst vs), S1, ρ2, w1, r2, ?_⟩
        have z2 := z1.step q1
        cases q2 : p ρ2 S1 with
        | err => rw [q2] at z2; exact z2.elim
        | no => rw [q2] at z2; exact z2.elim
        | ok b S2 =>
          rw [q2] at z2
          intro F2 m2 H2 b' e2 w2 eb
          have eb : b = b' := eb
          subst eb
          cases b with
          | false =>
            simp only [] at z2
            rw [if_neg Bool.false_ne_true]
            exact ⟨F2, m2, S2, dn, vs, e1.trans e2, w2, rs.mono e2.fro, by omega, z2.ext e2⟩
          | true =>
            simp only [] at z2
            rw [if_pos rfl]
            refine ⟨F2, m2, upd G Dl (.lst vs), S2, ρ2, w2, r2.mono e2, ?_⟩
            cases q3 : f ρ2 S2 with
            | err => rw [q3] at z2; exact z2.elim
            | no => rw [q3] at z2; exact z2.elim
            | ok xv S3 =>
              rw [q3] at z2
              cases xv with
              | c n => exact z2.elim
              | d yv =>
                intro F3 m3 H3 v e3 w3 rv
                refine ⟨vs, w3.gsub Dl _ upd_same, by rw [← rs.length]; exact sz5' (by omega), F3, m3, S3, dn ++ [yv], vs ++ [v], e1.trans (e2.trans e3), ?_, (rs.mono (e2.trans e3).fro).append (.cons rv .nil), by simp; omega, Rest.ext (e2.trans e3) z2⟩
                exact (w3.unframe hG).frame upd_same (w3.gF Dl _ upd_same) fun n hn => by
                  have := w3.gm n Dl hn
                  rw [upd_same] at this; cases this
      · exact (z1.dead q1).elim
    · have ei : i = ds.length := by omega
      subst ei
      rw [List.drop_length] at z1
      refine .inl ⟨wk.stop _ H1 sub (Nat.le_refl _), ?_⟩
      have z1 := z1.fin
      exact z1 F1 m1 H1 Dl vs (Ext.refl _ _) w1 hG rs
/-! ### the comprehension's rules -/
def bYes : Env → M Bool := fun _ => pur true
abbrev MTs (X : Cx) (ifs : List Expr) (p : Env → M Bool) : Prop := PTs X ifs (tT X.K p)
theorem mts_nil {X : Cx} : MTs X [] bYes := ⟨fun pins s σ H Q I h => pts_nil.run pins s σ H Q I (by
  obtain ⟨F, m, G, S, ρ, w, r, z⟩ := h
  exact res_ok w rfl z)⟩
theorem mts_one {X : Cx} {c : Expr} {p : Env → M Bool} (h : MT X c p) : MTs X [c] p := pts_one h
section
variable {X : Cx} {elt tg iter : Expr} {ifs : List Expr} {scope : Scope} {own : List (Str × Nat)} {pos : Pos} {it : Env → M (List D)} {t : Tgt} {p : Env → M Bool} {f : Env → M Vl}
theorem mn_lc (own : List (Str × Nat)) (hc : X.calm = true) (hN : X.N.Nodup) (hi : MI X tg iter it) (ok : BlkOk X.N X.env.scope scope own)
    (hg : ∀ (s : Shared) (H : Hp) (C : Addr) (cl : List (Str × Addr)) (fp : List Addr), MG (X.blk s H scope (compEnvC scope cl C X.env) fp) tg t) (ht : ∀ (s : Shared) (H : Hp) (C : Addr) (cl : List (Str × Addr)) (fp : List Addr), MTs (X.blk s H scope (compEnvC scope cl C X.env) fp) ifs p)
    (he : ∀ (s : Shared) (H : Hp) (C : Addr) (cl : List (Str × Addr)) (fp : List Addr), ME (X.blk s H scope (compEnvC scope cl C X.env) fp) elt f) (hsl : ∀ i ∈ t.slots, i ∈ own.map (·.2) := by decide) (hs : ∀ x, foldedSetIterable iter X.env x = pure x := by intro _; rfl) :
    MN X (.ListComp elt [⟨tg, iter, ifs, 0⟩] scope pos) (lcF it t p f (own.map (·.2))) := PE.imp (pe_lc hc hN hi ok hg ht he hs) fun _ _ _ => tLc_of hsl
/-- y = [..], on one line -/
theorem ms_setLcE {i : Nat} {y : Str} {py spos : Pos} {k : (Env → M (List D)) → Env → M Vl} (hk : ∀ {g : Env → M (List D)} {σ : L2.St} {H : Hp} {Q : VK}, tE X.K (k g) σ H Q → tNew X.K g σ H Q) (own : List (Str × Nat)) (hc : X.calm = true) (hN : X.N.Nodup) (hy : X.N[i]? = some y) (hyl : X.env.scope.names.lookup y = some .local)
    (hsw : swapsWith (.ListComp elt [⟨tg, iter, ifs, 0⟩] scope pos) (some (.Name y py)) spos.line X.env = pure true) (hi : MI X tg iter it) (ok : BlkOk X.N X.env.scope scope own)
    (hg : ∀ (s : Shared) (H : Hp) (C : Addr) (cl : List (Str × Addr)) (fp : List Addr), MG (X.blk s H scope (compEnvC scope cl C X.env) fp) tg t) (ht : ∀ (s : Shared) (H : Hp) (C : Addr) (cl : List (Str × Addr)) (fp : List Addr), MTs (X.blk s H scope (compEnvC scope cl C X.env) fp) ifs p)
    (he : ∀ (s : Shared) (H : Hp) (C : Addr) (cl : List (Str × Addr)) (fp : List Addr), ME (X.blk s H scope (compEnvC scope cl C X.env) fp) elt f) (hsl : ∀ i ∈ t.slots, i ∈ own.map (·.2) := by decide) (hs : ∀ x, foldedSetIterable iter X.env x = pure x := by intro _; rfl) :
    MS X (.Assign [.Name y py] (.ListComp elt [⟨tg, iter, ifs, 0⟩] scope pos) spos) (sSet i (k (lcF it t p f (own.map (·.2))))) := PS.imp (ps_setLc hc hN hy hyl hsw hi ok hg ht he hs) fun D σ H ⟨F, m, G, S, ρ, w, r, z⟩ => by
  refine tLc_of (K := X.K) (it := it) (t := t) (p := p) (f := f) hsl (hk ?_)
  refine rd_mono (rd_bndS (A := rV X.K) w r z) fun v H1 ⟨F1, m1, S1, a1, e1, w1, r1, ra, q1⟩ => ?_
  exact q1 F1 m1 H1 (Ext.refl _ _) w1 _ (r1.set ra i)
end

/-! ### a def -/
/-- what a call leaves: young cells are forgotten, but the one that is handed back -/
def gcV (n : Nat) (x : Vl) (S : Sto) : R Vl := match x with
  | .d y => .ok (.d y) (S.take n)
  | .c k => if k < n then .ok (.c k) (S.take n) else match S[k]? with
    | some b => .ok (.c n) (S.take n ++ [b])
    | none => .no
def startE (N : Nat) (xs : List Vl) : Env := xs.map some ++ List.replicate (N - xs.length) none
def fnM (N : Nat) (s : Env → M Out) : List Vl → M Vl := fun xs S => match s (startE N xs) S with
  | .ok (.rt x) S' => gcV S.length x S'
  | .ok (.nx _) S' => gcV S.length (.d .non) S'
  | .ok _ _ => .no
  | .err x S' => .err x (S'.take S.length)
  | .no => .no
theorem pre_take {m m' : List Addr} (h : m <+: m') : m'.take m.length = m := by
  obtain ⟨t, rfl⟩ := h
  rw [List.take_append_of_le_length (Nat.le_refl _), List.take_length]
theorem gc_ok {K : Frag} {F F' G H' : Hp} {m m' : List Addr} {S S' : Sto} {x : Vl} {v : V} {Q : VK} (hl : m.length = S.length) (e : Ext F F' m m') (w : Wd K F' m' G S' H') (r : RepV K F' m' x v) (z : res K (rV K) F m G (gcV S.length x S') Q) : Q v H' := by
  have ht := pre_take e.pre
  unfold gcV at z
  cases x with
  | d y =>
    have w2 := w.cut m.length
    rw [ht, hl] at w2
    exact z F' m H' v ⟨e.fro, List.prefix_refl _⟩ w2 r
  | c k =>
    obtain ⟨a, ha, rfl⟩ := r
    simp only [] at z
    split at z
    · rename_i hk
      have w2 := w.cut m.length
      rw [ht, hl] at w2
      refine z F' m H' _ ⟨e.fro, List.prefix_refl _⟩ w2 ⟨a, ?_, rfl⟩
      rw [← ht, List.getElem?_take_of_lt (by omega)]
      exact ha
    · rename_i hk
      cases q : S'[k]? with
      | none => rw [q] at z; exact z.elim
      | some b =>
        rw [q] at z
        have w2 := w.cut1 (n := m.length) (by omega) ha q
        rw [ht] at w2
        have e2 : S'.take m.length = S'.take S.length := by rw [hl]
        rw [e2] at w2
        refine z F' (m ++ [a]) H' _ ⟨e.fro, List.prefix_append _ _⟩ w2 ⟨a, ?_, rfl⟩
        rw [← hl]
        simp
theorem start_rep {K : Frag} {F : Hp} {m : List Addr} {N : List Str} : ∀ {xs : List Vl} {vs : List V}, RepVs K F m xs vs → RepE K F m (startE N.length xs) (L2.start N vs) := fun {xs vs} r => by
  have hl := r.length
  refine ⟨?_, fun i x h => ?_⟩
  · unfold startE L2.start
    simp [hl]
  · unfold startE at h
    have hi : i < xs.length := by
      by_cases hi : i < xs.length
      · exact hi
      · rw [List.getElem?_append_right (by simpa using hi), List.getElem?_replicate] at h
        split at h <;> cases h
    rw [List.getElem?_append_left (by simpa using hi), List.getElem?_map] at h
    have hx : xs[i]? = some x := by
      cases q : xs[i]? with
      | none => rw [q] at h; cases h
      | some y => rw [q] at h; cases h; rfl
    have key : ∀ {xs : List Vl} {vs : List V} {i : Nat}, RepVs K F m xs vs → xs[i]? = some x → ∃ v, vs[i]? = some v ∧ RepV K F m x v := by
      intro xs vs i r
      induction r generalizing i with
      | nil => intro h; simp at h
      | cons r1 r2 ih =>
        intro h
        cases i with
        | zero => simp at h; subst h; exact ⟨_, rfl, r1⟩
        | succ i => simp at h; obtain ⟨v, h1, h2⟩ := ih h; exact ⟨v, by simpa using h1, h2⟩
    obtain ⟨v, hv, rv⟩ := key r hx
    refine ⟨v, ?_, rv⟩
    unfold L2.start
    rw [List.getElem?_append_left (by rw [List.length_map]; omega), List.getElem?_map, hv]
    rfl
section
variable {P : Program} {w : World} {K : Frag} {mg : Str → Option Value} {base : Heap}
theorem fn_body {N : List Str} {sf : Env → M Out} {n : Nat} {vs : List V} {H : Hp} {Q : VK} {E : XK} (h : spM K n (fnM N.length sf) vs H Q E) : tS K sf { nx := fun _ H' => Q .non H', rt := Q } (L2.start N vs) H := by
  obtain ⟨_, F, m, G, S, xs, w, r, z⟩ := h
  refine ⟨F, m, G, S, startE N.length xs, w, start_rep r, ?_⟩
  unfold fnM at z
  cases q : sf (startE N.length xs) S with
  | err => rw [q] at z; exact z
  | no => rw [q] at z; exact z
  | ok o S' =>
    rw [q] at z
    intro F' m' H' e w'
    cases o with
    | nx ρ => exact fun σ _ => gc_ok (x := .d .non) w.len e w' Rep.non z
    | rt x => exact fun v rv => gc_ok w.len e w' rv z
    | bk ρ => exact z.elim
    | ct ρ => exact z.elim
theorem fn_ok {x qual : Str} {st : Stmt} {f : Addr} {fd : FuncData} {N ps : List Str} {k : Nat} {sf : Env → M Out} (F : Fun K x qual st f fd) (S : FnScope N ps (defScope st))
    (hb : ∀ (cdv : Value) (A : Around) (outer : List PySem.Env) (s : Shared) (H : Hp) (E : XK), Room k (A.deeper (envOfC qual (defScope st) s.heap.objs.size f cdv)) → MSs (cxOf CX0 P w K mg base N qual (defScope st) f cdv A outer s H E).nox (defBody st) sf) :
    FnOk P w K mg base CX0 (k + 1) f fd ps (spM K ps.length (fnM N.length sf)) :=
  F.ok S (fun vs H Q E h => h.1) fun cdv A outer s H vs Q E hr h => ⟨_, hb cdv A outer s H E hr, fn_body h⟩
theorem fn_okD {x qual : Str} {params : Arguments} {bd : List Stmt} {scope : Scope} {f : Addr} {fd : FuncData} {N ps : List Str} {k : Nat} {sf : Env → M Out} (F : FunD K x qual params bd scope [] [] f fd) (S : FnScope N ps scope)
    (hb : ∀ (cdv : Value) (A : Around) (outer : List PySem.Env) (s : Shared) (H : Hp) (E : XK), Room k (A.deeper (envOfC qual scope s.heap.objs.size f cdv)) → MSs (cxOf CX0 P w K mg base N qual scope f cdv A outer s H E).nox bd sf) :
    FnOk P w K mg base CX0 (k + 1) f fd ps (spM K ps.length (fnM N.length sf)) :=
  F.ok S (fun vs H Q E h => h.1) fun cdv A outer s H vs Q E hr h => ⟨_, PSs.nox (hb cdv A outer s H E hr), fn_body h⟩
end
end Dz

/-! Dz4: operators and built-ins. -/
namespace Dz
open PySem PySem.Spec PyProof.Rows L2
def opt {α β : Type} (o : Option α) (k : α → M β) : M β := match o with
  | some a => k a
  | none => stuck
theorem res_opt {α β γ : Type} {K : Frag} {A : Hp → List Addr → β → γ → Prop} {F G : Hp} {m : List Addr} {S : Sto} {o : Option α} {k : α → M β} {Q : γ → Hp → Prop} (h : res K A F m G (opt o k S) Q) : ∃ a, o = some a ∧ res K A F m G (k a S) Q := by
  cases o with
  | none => exact h.elim
  | some a => exact ⟨a, rfl, h⟩
/-- a cell's list -/
def getC (n : Nat) : M (List D) := fun S => match S[n]? with
  | some (.lst xs) => .ok xs S
  | none => .no
theorem res_getC {α β : Type} {K : Frag} {A : Hp → List Addr → α → β → Prop} {F G H : Hp} {m : List Addr} {S : Sto} {n : Nat} {v : V} {k : List D → M α} {Q : β → Hp → Prop} (w : Wd K F m G S H) (r : RepV K F m (.c n) v) (h : res K A F m G (bnd (getC n) k S) Q) :
    ∃ a xs vs, v = .ref a ∧ m[n]? = some a ∧ S[n]? = some (.lst xs) ∧ H a = some (.lst vs) ∧ Reps K F xs vs ∧ res K A F m G (k xs S) Q := by
  obtain ⟨a, hm, rfl⟩ := r
  unfold bnd getC at h
  cases q : S[n]? with
  | none => rw [q] at h; exact h.elim
  | some b =>
    cases b with
    | lst xs =>
      rw [q] at h
      obtain ⟨o, ho, rr⟩ := w.cells n a _ hm q
      cases rr with
      | lst rs => exact ⟨a, xs, _, rfl, hm, rfl, ho, rs, h⟩
section
variable {X : Cx}
theorem opM_of {f : Value → Value → Sem Value} {r : R2} {g : Vl → Vl → M Vl} (h : OpR X f r) (i : ∀ (F : Hp) (m : List Addr) (G : Hp) (S : Sto) (H : Hp) (a b : Vl) (x y : V) (Q : VK), Wd X.K F m G S H → RepV X.K F m a x → RepV X.K F m b y → res X.K (rV X.K) F m G (g a b S) Q → r x y H Q) : OpM X f g :=
  fun pins s σ H x y v u Q I rx ry ⟨F, m, G, S, a, b, w, ra, rb, z⟩ => h pins s σ H x y v u Q I rx ry (i F m G S H a b x y Q w ra rb z)
/-- two ints -/
def g2I (C : Int → Int → Bool) (k : Int → Int → D) : Vl → Vl → M Vl := fun a b => match a, b with
  | .d (.int i), .d (.int j) => if C i j then pur (.d (k i j)) else stuck
  | _, _ => stuck
theorem opM_I {f : Value → Value → Sem Value} {C : Int → Int → Prop} {k : Int → Int → V} {B : Int → Int → Bool} {kd : Int → Int → D} (h : OpR X f (rI C k)) (hC : ∀ i j, B i j = true → C i j) (hk : ∀ K F i j, Rep K F (kd i j) (k i j)) : OpM X f (g2I B kd) :=
  opM_of h fun F m G S H a b x y Q w ra rb z => by
  unfold g2I at z
  split at z
  · rename_i i j
    cases ra
    cases rb
    split at z
    · rename_i hb
      exact ⟨i, j, rfl, rfl, hC i j hb, res_ok w (hk _ _ i j) z⟩
    · exact z.elim
  · exact z.elim
theorem rI_of {f : Value → Value → Sem Value} {k : Int → Int → V} (h : OpR X f (rI0 k)) : OpR X f (rI (fun _ _ => True) k) := fun pins s σ H x y v u Q I rx ry ⟨i, j, e1, e2, _, q⟩ => h pins s σ H x y v u Q I rx ry ⟨i, j, e1, e2, q⟩
def yes2 : Int → Int → Bool := fun _ _ => true
/-- + -/
def opAdd : Vl → Vl → M Vl := fun a b => match a, b with
  | .d (.int i), .d (.int j) => pur (.d (.int (i + j)))
  | .d (.str x), .d (.str y) => if x.length + y.length ≤ 100000 then pur (.d (.str (x ++ y))) else stuck
  | .d (.lst xs), .d (.lst ys) => if xs.length + ys.length ≤ 100000 then pur (.d (.lst (xs ++ ys))) else stuck
  | .d (.tup xs), .d (.tup ys) => if xs.length + ys.length ≤ 100000 then pur (.d (.tup (xs ++ ys))) else stuck
  | _, _ => stuck
theorem om_add : OpM X (binaryOp .Add) opAdd := opM_of (op_add.or (op_add_str.or (op_cat.or op_catA))) fun F m G S H a b x y Q w ra rb z => by
  unfold opAdd at z
  split at z
  · cases ra; cases rb
    exact .inl ⟨_, _, rfl, rfl, res_ok w (.int _) z⟩
  · cases ra; cases rb
    split at z
    · rename_i hl
      exact .inr (.inl ⟨_, _, rfl, rfl, sz5 hl, res_ok w (.str _) z⟩)
    · exact z.elim
  · cases ra with
    | lst ha r1 =>
    cases rb with
    | lst hb r2 =>
    split at z
    · rename_i hl
      refine .inr (.inr (.inl ⟨_, _, _, _, rfl, rfl, w.sub _ _ ha, w.sub _ _ hb, by rw [← r1.length, ← r2.length]; exact sz5 hl, fun p hp => ?_⟩))
      exact z _ m _ _ (Ext.lay (w.fresh hp)) (w.lay hp _) (.lst upd_same ((r1.append r2).mono (same_upd (w.fresh hp))))
    · exact z.elim
  · cases ra with
    | tup ha r1 =>
    cases rb with
    | tup hb r2 =>
    split at z
    · rename_i hl
      refine .inr (.inr (.inr ⟨_, _, _, _, rfl, rfl, sqT_mono w.sub ha, sqT_mono w.sub hb, by rw [← r1.length, ← r2.length]; exact sz5 hl, fun e => ?_, fun _ e => ?_, fun _ _ p hp => ?_⟩))
      · subst e
        cases r1
        exact res_ok w (.tup hb r2) z
      · subst e
        cases r2
        rw [List.append_nil] at z
        exact res_ok w (.tup ha r1) z
      · exact z _ m _ _ (Ext.lay (w.fresh hp)) (w.lay hp _) (.tup (.inl (.inl upd_same)) ((r1.append r2).mono (same_upd (w.fresh hp))))
    · exact z.elim
  · exact z.elim
def opSub : Vl → Vl → M Vl := g2I yes2 fun i j => .int (i - j)
theorem om_sub : OpM X (binaryOp .Sub) opSub := opM_I (rI_of op_sub) (fun _ _ _ => trivial) fun _ _ _ _ => .int _
/-- * of ints (one of them below 2 ^ 64), of a list and an int -/
def bMul (i j : Int) : Bool := decide (-(2 ^ 64) < i ∧ i < 2 ^ 64) || decide (-(2 ^ 64) < j ∧ j < 2 ^ 64)
def opMul : Vl → Vl → M Vl := fun a b => match a, b with
  | .d (.int i), .d (.int j) => if bMul i j then pur (.d (.int (i * j))) else stuck
  | .d (.lst xs), .d (.int k) => if -(2 ^ 63) ≤ k ∧ k < 2 ^ 63 ∧ xs.length * k.toNat ≤ 100000 then pur (.d (.lst (List.replicate k.toNat xs).flatten)) else stuck
  | _, _ => stuck
theorem reps_rep {K : Frag} {F : Hp} {ds : List D} {vs : List V} (r : Reps K F ds vs) : ∀ n : Nat, Reps K F (List.replicate n ds).flatten (List.replicate n vs).flatten
  | 0 => .nil
  | n + 1 => by
    rw [List.replicate_succ, List.replicate_succ, List.flatten_cons, List.flatten_cons]
    exact r.append (reps_rep r n)
theorem om_mul : OpM X (binaryOp .Mult) opMul := opM_of (op_mul.or op_rep) fun F m G S H a b x y Q w ra rb z => by
  unfold opMul at z
  split at z
  · cases ra; cases rb
    split at z
    · rename_i i j hb
      refine .inl ⟨i, j, rfl, rfl, ?_, res_ok w (.int _) z⟩
      unfold bMul at hb
      rw [Bool.or_eq_true, decide_eq_true_iff, decide_eq_true_iff] at hb
      exact hb
    · exact z.elim
  · cases rb
    cases ra with
    | lst ha r1 =>
    split at z
    · rename_i hl
      refine .inr ⟨_, _, _, rfl, rfl, w.sub _ _ ha, hl.1, hl.2.1, by rw [← r1.length]; exact sz5 hl.2.2, fun p hp => ?_⟩
      exact z _ m _ _ (Ext.lay (w.fresh hp)) (w.lay hp _) (.lst upd_same ((reps_rep r1 _).mono (same_upd (w.fresh hp))))
    · exact z.elim
  · exact z.elim
def opMod : Vl → Vl → M Vl := g2I (fun _ j => decide (0 < j)) fun i j => .int (i % j)
theorem om_mod : OpM X (binaryOp .Mod) opMod := opM_I op_mod (fun _ _ h => of_decide_eq_true h) fun _ _ _ _ => .int _
def opDiv : Vl → Vl → M Vl := g2I (fun _ j => decide (0 < j ∧ j < 1073741824)) fun i j => .int (i / j)
theorem om_div : OpM X (binaryOp .FloorDiv) opDiv := opM_I op_fdiv (fun i j h => by
  have q : 0 < j ∧ j < 1073741824 := of_decide_eq_true h
  exact q) fun _ _ _ _ => .int _
def opPow : Vl → Vl → M Vl := g2I (fun i j => decide (0 ≤ j ∧ (Builtin.Int.intBits i : Int) * j ≤ 2 ^ 27)) fun i j => .int (i ^ j.toNat)
theorem op_powW : OpR X (binaryOp .Pow) (rI (fun i j => 0 ≤ j ∧ (Builtin.Int.intBits i : Int) * j ≤ 2 ^ 27) fun i j => .int (i ^ j.toNat)) := opI fun _ _ _ _ _ _ _ hc q => pow_int hc.1 hc.2 q
theorem om_pow : OpM X (binaryOp .Pow) opPow := opM_I op_powW (fun _ _ h => of_decide_eq_true h) fun _ _ _ _ => .int _
def opNeg : Vl → M Vl := fun a => match a with
  | .d (.int i) => pur (.d (.int (-i)))
  | _ => stuck
theorem um_neg : UnR X (unaryOp .USub) (RUM X.K opNeg) := fun pins s σ H x u Q I rx ⟨F, m, G, S, a, w, ra, z⟩ => un_neg pins s σ H x u Q I rx (by
  unfold opNeg at z
  split at z
  · cases ra
    exact ⟨_, rfl, res_ok w (.int _) z⟩
  · exact z.elim)

/-! ### comparisons -/
def cmpI (k : Int → Int → Bool) (l : List Nat → List Nat → Bool) : Vl → Vl → M Vl := fun a b => match a, b with
  | .d (.int i), .d (.int j) => pur (.d (.bl (k i j)))
  | .d (.str x), .d (.str y) => pur (.d (.bl (l x.cps.toList y.cps.toList)))
  | _, _ => stuck
theorem om_cmpI {op : CmpOp} {k : Int → Int → Bool} {l : List Nat → List Nat → Bool} (h1 : OpR X (compareOp op) (rI0 fun i j => .bl (k i j))) (h2 : OpR X (compareOp op) (fun x y H Q => ∃ i j, x = .str i ∧ y = .str j ∧ Q (.bl (l i.cps.toList j.cps.toList)) H)) : OpM X (compareOp op) (cmpI k l) :=
  opM_of (h1.or h2) fun F m G S H a b x y Q w ra rb z => by
  unfold cmpI at z
  split at z
  · cases ra; cases rb
    exact .inl ⟨_, _, rfl, rfl, res_ok w (.bl _) z⟩
  · cases ra; cases rb
    exact .inr ⟨_, _, rfl, rfl, res_ok w (.bl _) z⟩
  · exact z.elim
def cLt : Vl → Vl → M Vl := cmpI (fun i j => decide (i < j)) fun x y => decide (x < y)
def cLe : Vl → Vl → M Vl := cmpI (fun i j => decide (i ≤ j)) fun x y => !decide (y < x)
def cGt : Vl → Vl → M Vl := cmpI (fun i j => decide (j < i)) fun x y => decide (y < x)
def cGe : Vl → Vl → M Vl := cmpI (fun i j => decide (j ≤ i)) fun x y => !decide (x < y)
theorem om_lt : OpM X (compareOp .Lt) cLt := om_cmpI op_lt op_lt_str
theorem om_le : OpM X (compareOp .LtE) cLe := om_cmpI op_le op_le_str
theorem om_gt : OpM X (compareOp .Gt) cGt := om_cmpI op_gt op_gt_str
theorem om_ge : OpM X (compareOp .GtE) cGe := om_cmpI op_ge op_ge_str
/-- is None -/
def isNon : D → Bool
  | .non => true
  | _ => false
def cIs : Vl → Vl → M Vl := fun a b => match a, b with
  | .d x, .d .non => pur (.d (.bl (isNon x)))
  | .c _, .d .non => pur (.d (.bl false))
  | _, _ => stuck
def cIsNot : Vl → Vl → M Vl := fun a b => match a, b with
  | .d x, .d .non => pur (.d (.bl (!isNon x)))
  | .c _, .d .non => pur (.d (.bl true))
  | _, _ => stuck
theorem isNon_rep {K : Frag} {F : Hp} {d : D} {v : V} (h : Rep K F d v) : decide (v = .non) = isNon d := by
  cases h <;> first | rfl | exact decide_eq_false (fun z => nomatch z)
theorem om_is : OpM X (compareOp .Is) cIs := opM_of op_isN fun F m G S H a b x y Q w ra rb z => by
  unfold cIs at z
  split at z
  · cases rb
    refine ⟨rfl, ?_⟩
    rw [isNon_rep ra]
    exact res_ok w (.bl _) z
  · cases rb
    obtain ⟨p, _, rfl⟩ := ra
    exact ⟨rfl, res_ok w (.bl _) z⟩
  · exact z.elim
theorem om_isnot : OpM X (compareOp .IsNot) cIsNot := opM_of op_notN fun F m G S H a b x y Q w ra rb z => by
  unfold cIsNot at z
  split at z
  · cases rb
    refine ⟨rfl, ?_⟩
    rw [isNon_rep ra]
    exact res_ok w (.bl _) z
  · cases rb
    obtain ⟨p, _, rfl⟩ := ra
    exact ⟨rfl, res_ok w (.bl _) z⟩
  · exact z.elim
/-! data that == compares -/
mutual
def pyOf : D → Option PyData
  | .non => some .none
  | .bl b => some (.bool b)
  | .int i => some (.int i)
  | .str x => some (.str x)
  | .ty _ => none
  | .tup xs => match pyOfs xs with
    | some ps => some (.tuple ps)
    | none => none
  | .lst xs => match pyOfs xs with
    | some ps => some (.list ps)
    | none => none
  | .scr _ => none
  | .dct _ => none
def pyOfs : List D → Option (List PyData)
  | [] => some []
  | x :: xs => match pyOf x, pyOfs xs with
    | some p, some ps => some (p :: ps)
    | _, _ => none
end
mutual
theorem pyOf_dp {K : Frag} {F H : Hp} (s : Same F H) : ∀ {d : D} {v : V} {p : PyData}, Rep K F d v → pyOf d = some p → Dp K H v p
  | _, _, _, .non, h => by cases h; exact .non
  | _, _, _, .bl b, h => by cases h; exact .bl b
  | _, _, _, .int b, h => by cases h; exact .int b
  | _, _, _, .str b, h => by cases h; exact .str b
  | _, _, _, .ty b, h => by cases h
  | _, _, _, .tup ht rs, h => by
    unfold pyOf at h
    split at h
    · rename_i q
      cases h
      exact .tup (sqT_mono s ht) (pyOfs_dp s rs q)
    · cases h
  | _, _, _, .lst ht rs, h => by
    unfold pyOf at h
    split at h
    · rename_i q
      cases h
      exact .lst (s.seq (SqL.of ht)) (pyOfs_dp s rs q)
    · cases h
  | _, _, _, .scr _, h => by cases h
  | _, _, _, .dct _ _, h => by cases h
theorem pyOfs_dp {K : Frag} {F H : Hp} (s : Same F H) : ∀ {ds : List D} {vs : List V} {ps : List PyData}, Reps K F ds vs → pyOfs ds = some ps → DpAll K H vs ps
  | _, _, _, .nil, h => by cases h; exact .nil
  | _, _, _, .cons r rs, h => by
    unfold pyOfs at h
    split at h
    · rename_i q1 q2
      cases h
      exact .cons (pyOf_dp s r q1) (pyOfs_dp s rs q2)
    · cases h
end
def eqD (a b : D) : Option Bool := match pyOf a, pyOf b with
  | some p, some q => if SeqAt.shaped p && SeqAt.shaped q then some (PyData.eqv p q) else none
  | _, _ => none
def cEq : Vl → Vl → M Vl := fun a b => match a, b with
  | .d x, .d y => opt (eqD x y) fun k => pur (.d (.bl k))
  | _, _ => stuck
def cNe : Vl → Vl → M Vl := fun a b => match a, b with
  | .d x, .d y => opt (eqD x y) fun k => pur (.d (.bl (!k)))
  | _, _ => stuck
theorem eqD_of {K : Frag} {F G H : Hp} {m : List Addr} {S : Sto} {a b : D} {x y : V} {k : Bool} (w : Wd K F m G S H) (ra : Rep K F a x) (rb : Rep K F b y) (h : eqD a b = some k) : ∃ p q, Dp K H x p ∧ Dp K H y q ∧ SeqAt.shaped p = true ∧ SeqAt.shaped q = true ∧ PyData.eqv p q = k := by
  unfold eqD at h
  split at h
  · rename_i p q h1 h2
    split at h
    · rename_i hs
      cases h
      rw [Bool.and_eq_true] at hs
      exact ⟨p, q, pyOf_dp w.sub ra h1, pyOf_dp w.sub rb h2, hs.1, hs.2, rfl⟩
    · cases h
  · cases h
theorem om_eq (hu : X.A.units + 64 < cLine) : OpM X (compareOp .Eq) cEq := opM_of (op_eqD hu) fun F m G S H a b x y Q w ra rb z => by
  unfold cEq at z
  split at z
  · obtain ⟨k, h, z⟩ := res_opt z
    obtain ⟨p, q, h1, h2, h3, h4, rfl⟩ := eqD_of w ra rb h
    exact ⟨p, q, h1, h2, h3, h4, res_ok w (.bl _) z⟩
  · exact z.elim
theorem om_ne (hu : X.A.units + 64 < cLine) : OpM X (compareOp .NotEq) cNe := opM_of (op_neD hu) fun F m G S H a b x y Q w ra rb z => by
  unfold cNe at z
  split at z
  · obtain ⟨k, h, z⟩ := res_opt z
    obtain ⟨p, q, h1, h2, h3, h4, rfl⟩ := eqD_of w ra rb h
    exact ⟨p, q, h1, h2, h3, h4, res_ok w (.bl _) z⟩
  · exact z.elim
/-- in a text -/
def cIn : Vl → Vl → M Vl := fun a b => match a, b with
  | .d (.str x), .d (.str y) => pur (.d (.bl (!(Builtin.Str.occurrences y x 0 y.length 1).isEmpty)))
  | _, _ => stuck
theorem om_in : OpM X (compareOp .In) cIn := opM_of op_in_str fun F m G S H a b x y Q w ra rb z => by
  unfold cIn at z
  split at z
  · cases ra; cases rb
    exact ⟨_, _, rfl, rfl, res_ok w (.bl _) z⟩
  · exact z.elim

/-! ### items -/
def gIx : Vl → Vl → M Vl := fun a b => match a, b with
  | .d (.lst xs), .d (.int i) => opt (atI xs i) fun x => pur (.d x)
  | .d (.scr ns), .d (.int i) => opt (atI ns i) fun n => pur (.d (.int n))
  | .d (.tup xs), .d (.int i) => opt (atI xs i) fun x => pur (.d x)
  | .d (.str z), .d (.int i) => if z.length ≤ 100000 then opt (atI z.cps.toList i) fun c => pur (.d (.str ⟨#[c]⟩)) else stuck
  | .c n, .d (.int i) => bnd (getC n) fun xs => opt (atI xs i) fun x => pur (.d x)
  | _, _ => stuck
theorem atI_rep {K : Frag} {F : Hp} {ds : List D} {vs : List V} {i : Int} {d : D} (r : Reps K F ds vs) (h : atI ds i = some d) : ∃ v, atI vs i = some v ∧ Rep K F d v := by
  unfold atI at h ⊢
  rw [← r.length]
  cases q : ixN ds.length i with
  | none => rw [q] at h; cases h
  | some j =>
    rw [q] at h
    exact r.get h
theorem atI_map {ns : List Int} {i n : Int} (h : atI ns i = some n) : atI (ns.map V.int) i = some (.int n) := by
  unfold atI at h ⊢
  rw [List.length_map]
  cases q : ixN ns.length i with
  | none => rw [q] at h; cases h
  | some j =>
    rw [q] at h
    have h : ns[j]? = some n := h
    show (ns.map V.int)[j]? = _
    rw [List.getElem?_map, h]
    rfl
def eIx (f h : Env → M Vl) : Env → M Vl := eOp gIx f h
theorem ixM : ∀ {F : Hp} {m : List Addr} {G : Hp} {S : Sto} {H : Hp} {a b : Vl} {x y : V} {Q : VK}, Wd X.K F m G S H → RepV X.K F m a x → RepV X.K F m b y → res X.K (rV X.K) F m G (gIx a b S) Q → rIx X.K x y H Q := fun {F m G S H a b x y Q} w ra rb z => by
  unfold gIx at z
  split at z
  · cases ra with
    | lst ha rs =>
    cases rb
    obtain ⟨d, h, z⟩ := res_opt z
    obtain ⟨v, hv, rd⟩ := atI_rep rs h
    exact .inl ⟨_, _, _, v, rfl, rfl, w.sub.seq (SqL.of ha), hv, res_ok w rd z⟩
  · cases ra with
    | scr ha =>
    cases rb
    obtain ⟨d, h, z⟩ := res_opt z
    exact .inl ⟨_, _, _, _, rfl, rfl, w.sub.seq ha, atI_map h, res_ok w (.int _) z⟩
  · cases ra with
    | tup ha rs =>
    cases rb
    obtain ⟨d, h, z⟩ := res_opt z
    obtain ⟨v, hv, rd⟩ := atI_rep rs h
    exact .inr (.inl ⟨_, _, _, v, rfl, rfl, sqT_mono w.sub ha, hv, res_ok w rd z⟩)
  · cases ra
    cases rb
    split at z
    · rename_i hl
      obtain ⟨c, h, z⟩ := res_opt z
      exact .inr (.inr ⟨_, _, c, rfl, rfl, sz5 hl, h, res_ok w (.str _) z⟩)
    · exact z.elim
  · obtain ⟨a, xs, vs, rfl, hm, hS, ho, rs, z⟩ := res_getC w ra z
    cases rb
    obtain ⟨d, h, z⟩ := res_opt z
    obtain ⟨v, hv, rd⟩ := atI_rep rs h
    exact .inl ⟨_, _, _, v, rfl, rfl, SqL.of ho, hv, res_ok w rd z⟩
  · exact z.elim
theorem me_ix {a b : Expr} {pos : Pos} {f h : Env → M Vl} (ha : ME X a f) (hb : ME X b h) (hs : PlainIx b := by exact fun _ _ => rfl) : ME X (.Subscript a b pos) (eIx f h) := PE.imp (pe_ix ix_seq ha hb hs) fun σ H Q hw => by
  obtain ⟨F, m, G, S, ρ, w, r, q⟩ := hw
  refine rd_mono (rd_bnd (A := rV X.K) w r q) fun x H1 ⟨F1, m1, S1, a1, e1, w1, r1, ra, q1⟩ => ?_
  refine rd_mono (rd_bnd (A := rV X.K) w1 r1 q1) fun y H2 ⟨F2, m2, S2, a2, e2, w2, r2, rb, q2⟩ => ?_
  exact ixM w2 (ra.mono e2) rb q2

/-! ### built-in functions -/
theorem callM_of {f : Value} {r : List V → Hp → VK → Prop} {g : List Vl → M Vl} (h : CallR X f r) (i : ∀ (F : Hp) (m : List Addr) (G : Hp) (S : Sto) (H : Hp) (xs : List Vl) (vs : List V) (Q : VK), Wd X.K F m G S H → RepVs X.K F m xs vs → res X.K (rV X.K) F m G (g xs S) Q → r vs H Q) : CallM X f g :=
  fun pins s σ H vs us Q I rx ⟨F, m, G, S, xs, w, ra, z⟩ => h pins s σ H vs us Q I rx (i F m G S H xs vs Q w ra z)
def bLen : List Vl → M Vl := fun xs => match xs with
  | [.d (.lst ds)] => pur (.d (.int ds.length))
  | [.d (.tup ds)] => pur (.d (.int ds.length))
  | [.d (.scr ds)] => pur (.d (.int ds.length))
  | [.d (.str z)] => if z.length ≤ 100000 then pur (.d (.int z.length)) else stuck
  | [.c n] => bnd (getC n) fun ds => pur (.d (.int ds.length))
  | _ => stuck
theorem cm_len : CallM X (.builtin "len") bLen := callM_of call_len fun F m G S H xs vs Q w rs z => by
  unfold bLen at z
  split at z
  · cases rs with
    | cons r1 r2 =>
    cases r2
    cases r1 with
    | lst ha r => exact ⟨_, _, rfl, .inl ⟨_, w.sub.seq (SqL.of ha), rfl⟩, by rw [← r.length]; exact res_ok w (.int _) z⟩
  · cases rs with
    | cons r1 r2 =>
    cases r2
    cases r1 with
    | tup ha r => exact ⟨_, _, rfl, .inr ⟨_, sqT_mono w.sub ha, rfl⟩, by rw [← r.length]; exact res_ok w (.int _) z⟩
  · cases rs with
    | cons r1 r2 =>
    cases r2
    cases r1 with
    | scr ha => exact ⟨_, _, rfl, .inl ⟨_, w.sub.seq ha, rfl⟩, by rw [List.length_map]; exact res_ok w (.int _) z⟩
  · cases rs with
    | cons r1 r2 =>
    cases r2
    cases r1
    split at z
    · rename_i hl
      exact ⟨_, _, rfl, ⟨sz5 hl, rfl⟩, res_ok w (.int _) z⟩
    · exact z.elim
  · cases rs with
    | cons r1 r2 =>
    cases r2
    obtain ⟨a, xs, vs, rfl, hm, hS, ho, r, z⟩ := res_getC w r1 z
    exact ⟨_, _, rfl, .inl ⟨_, SqL.of ho, rfl⟩, by rw [← r.length]; exact res_ok w (.int _) z⟩
  · exact z.elim
def bAbs : List Vl → M Vl := fun xs => match xs with
  | [.d (.int i)] => pur (.d (.int (if i < 0 then -i else i)))
  | _ => stuck
theorem cm_abs : CallM X (.builtin "abs") bAbs := callM_of call_abs fun F m G S H xs vs Q w rs z => by
  unfold bAbs at z
  split at z
  · cases rs with
    | cons r1 r2 =>
    cases r2
    cases r1
    exact ⟨_, rfl, res_ok w (.int _) z⟩
  · exact z.elim
def bMax : List Vl → M Vl := fun xs => match xs with
  | [.d (.int i), .d (.int j)] => pur (.d (.int (if j > i then j else i)))
  | _ => stuck
def bMin : List Vl → M Vl := fun xs => match xs with
  | [.d (.int i), .d (.int j)] => pur (.d (.int (if j < i then j else i)))
  | _ => stuck
theorem cm_max (hc : X.calm = true) : CallM X (.builtin "max") bMax := callM_of (call_max2 hc) fun F m G S H xs vs Q w rs z => by
  unfold bMax at z
  split at z
  · cases rs with
    | cons r1 r2 =>
    cases r2 with
    | cons r2 r3 =>
    cases r3
    cases r1
    cases r2
    exact ⟨_, _, rfl, res_ok w (.int _) z⟩
  · exact z.elim
theorem cm_min (hc : X.calm = true) : CallM X (.builtin "min") bMin := callM_of (call_min2 hc) fun F m G S H xs vs Q w rs z => by
  unfold bMin at z
  split at z
  · cases rs with
    | cons r1 r2 =>
    cases r2 with
    | cons r2 r3 =>
    cases r3
    cases r1
    cases r2
    exact ⟨_, _, rfl, res_ok w (.int _) z⟩
  · exact z.elim
def tInt : List Vl → M Vl := fun xs => match xs with
  | [.d (.int i)] => pur (.d (.int i))
  | [.d (.bl k)] => pur (.d (.int (if k then 1 else 0)))
  | _ => stuck
theorem cm_int : CallM X (.type "int") tInt := callM_of call_int1 fun F m G S H xs vs Q w rs z => by
  unfold tInt at z
  split at z
  · cases rs with
    | cons r1 r2 =>
    cases r2
    cases r1
    exact .inl ⟨_, rfl, res_ok w (.int _) z⟩
  · cases rs with
    | cons r1 r2 =>
    cases r2
    cases r1
    exact .inr ⟨_, rfl, res_ok w (.int _) z⟩
  · exact z.elim
def tStr : List Vl → M Vl := fun xs => match xs with
  | [.d (.int i)] => if i.natAbs.log2 < 1920 then pur (.d (.str (toString i))) else stuck
  | _ => stuck
theorem cm_str : CallM X (.type "str") tStr := callM_of call_str_int fun F m G S H xs vs Q w rs z => by
  unfold tStr at z
  split at z
  · cases rs with
    | cons r1 r2 =>
    cases r2
    cases r1
    split at z
    · rename_i hl
      exact ⟨_, rfl, hl, res_ok w (.str _) z⟩
    · exact z.elim
  · exact z.elim
/-- repr of a bool -/
def bRepr : List Vl → M Vl := fun xs => match xs with
  | [.d (.bl b)] => pur (.d (.str (if b then "True" else "False")))
  | _ => stuck
theorem call_repr_bl : CallR X (.builtin "repr") (fun xs H Q => ∃ b, xs = [.bl b] ∧ Q (.str (if b then "True" else "False")) H) := by
  intro pins s σ H xs us Q I r h
  obtain ⟨b, rfl, q⟩ := h
  obtain ⟨u, rfl, ru⟩ := vals1 r
  cases ru
  exact PySem.P.repr_of_bool ⟨.str _, H, I.tok _, ⟨_, rfl⟩, q⟩
theorem cm_repr : CallM X (.builtin "repr") bRepr := callM_of call_repr_bl fun F m G S H xs vs Q w rs z => by
  unfold bRepr at z
  split at z
  · cases rs with
    | cons r1 r2 =>
    cases r2
    cases r1
    exact ⟨_, rfl, res_ok w (.str _) z⟩
  · exact z.elim
/-- all, any of bools -/
def boolsOf : List D → Option (List Bool)
  | [] => some []
  | .bl b :: r => match boolsOf r with
    | some bs => some (b :: bs)
    | none => none
  | _ :: _ => none
theorem bools_rep {K : Frag} {F : Hp} : ∀ {ds : List D} {vs : List V} {bs : List Bool}, Reps K F ds vs → boolsOf ds = some bs → vs = bs.map V.bl
  | _, _, _, .nil, h => by cases h; rfl
  | .bl b :: ds, _, _, .cons r rs, h => by
    unfold boolsOf at h
    cases q : boolsOf ds with
    | none => rw [q] at h; cases h
    | some cs =>
      rw [q] at h
      cases h
      cases r
      rw [bools_rep rs q]
      rfl
  | .non :: ds, _, _, .cons r rs, h => by cases h
  | .int _ :: ds, _, _, .cons r rs, h => by cases h
  | .str _ :: ds, _, _, .cons r rs, h => by cases h
  | .ty _ :: ds, _, _, .cons r rs, h => by cases h
  | .tup _ :: ds, _, _, .cons r rs, h => by cases h
  | .lst _ :: ds, _, _, .cons r rs, h => by cases h
  | .scr _ :: ds, _, _, .cons r rs, h => by cases h
  | .dct _ :: ds, _, _, .cons r rs, h => by cases h
def bAll : List Vl → M Vl := fun xs => match xs with
  | [.d (.lst ds)] => opt (boolsOf ds) fun bs => pur (.d (.bl (bs.all id)))
  | _ => stuck
def bAny : List Vl → M Vl := fun xs => match xs with
  | [.d (.lst ds)] => opt (boolsOf ds) fun bs => pur (.d (.bl (bs.any id)))
  | _ => stuck
theorem cm_all (hc : X.calm = true) : CallM X (.builtin "all") bAll := callM_of (cr_all hc) fun F m G S H xs vs Q w rs z => by
  unfold bAll at z
  split at z
  · cases rs with
    | cons r1 r2 =>
    cases r2
    cases r1 with
    | lst ha r =>
    obtain ⟨bs, h, z⟩ := res_opt z
    have e := bools_rep r h
    subst e
    exact ⟨_, bs, rfl, w.sub.seq (SqL.of ha), res_ok w (.bl _) z⟩
  · exact z.elim
theorem cm_any (hc : X.calm = true) : CallM X (.builtin "any") bAny := callM_of (cr_any hc) fun F m G S H xs vs Q w rs z => by
  unfold bAny at z
  split at z
  · cases rs with
    | cons r1 r2 =>
    cases r2
    cases r1 with
    | lst ha r =>
    obtain ⟨bs, h, z⟩ := res_opt z
    have e := bools_rep r h
    subst e
    exact ⟨_, bs, rfl, w.sub.seq (SqL.of ha), res_ok w (.bl _) z⟩
  · exact z.elim
/-- isinstance(x, a built-in type) -/
def tyN : D → Option String
  | .non => some "NoneType" | .bl _ => some "bool" | .int _ => some "int" | .str _ => some "str" | .ty _ => none
  | .tup _ => some "tuple" | .lst _ => some "list" | .scr _ => some "list" | .dct _ => some "dict"
def bIsi : List Vl → M Vl := fun xs => match xs with
  | [.d x, .d (.ty T)] => opt (tyN x) fun t => opt (kitB t T) fun b => pur (.d (.bl b))
  | _ => stuck
theorem tyN_rep {K : Frag} {F H : Hp} (s : Same F H) {d : D} {v : V} {t : String} (r : Rep K F d v) (h : tyN d = some t) : TyX K H v (.type t) := by
  cases r with
  | non => cases h; exact .base .non
  | bl b => cases h; exact .base (.bl b)
  | int b => cases h; exact .base (.int b)
  | str b => cases h; exact .base (.str b)
  | ty b => cases h
  | tup ht rs =>
    cases h
    rcases ht with (ht | ⟨o, ht⟩) | ⟨o, its, n, hk, hc, _⟩
    · exact .base (.tup (s _ _ ht))
    · exact .fTuple (s _ _ ht)
    · exact .kTuple hk hc
  | lst ht rs => cases h; exact .base (.lst (s _ _ ht))
  | scr ht =>
    cases h
    rcases ht with (ht | ⟨o, ht⟩) | ⟨o, its, n, hk, hc, _⟩
    · exact .base (.lst (s _ _ ht))
    · exact .base (.frz (s _ _ ht))
    · exact .kList hk hc
  | dct ht rs => cases h; exact .base (.dK (s _ _ ht))
theorem cm_isi : CallM X (.builtin "isinstance") bIsi := callM_of call_isi fun F m G S H xs vs Q w rs z => by
  unfold bIsi at z
  split at z
  · cases rs with
    | cons r1 r2 =>
    cases r2 with
    | cons r2 r3 =>
    cases r3
    cases r2
    obtain ⟨t, ht, z⟩ := res_opt z
    obtain ⟨b, hb, z⟩ := res_opt z
    exact ⟨_, _, _, _, b, rfl, .ty _, tyN_rep w.sub r1 ht, kit_ty hb, res_ok w (.bl _) z⟩
  · exact z.elim
theorem me_ty {x : Str} {T : String} {pos : Pos} (hg : Gl X x) (hm : X.mg x = none) (hv : bootBuiltins x = some (.type T)) (hn : x ≠ "__name__" := by decide) (hd : (x == ("__debug__" : Str)) = false := by decide) : ME X (.Name x pos) (eC (.ty T)) := me_c (v := .ty T) (pe_bltn hg hm hv rfl hn hd) fun _ _ => .ty T

/-! ### methods of texts -/
def strsOf : List D → Option (List Str)
  | [] => some []
  | .str b :: r => match strsOf r with
    | some bs => some (b :: bs)
    | none => none
  | _ :: _ => none
theorem strs_rep {K : Frag} {F : Hp} : ∀ {ds : List D} {vs : List V} {bs : List Str}, Reps K F ds vs → strsOf ds = some bs → vs = bs.map V.str
  | _, _, _, .nil, h => by cases h; rfl
  | .str b :: ds, _, _, .cons r rs, h => by
    unfold strsOf at h
    cases q : strsOf ds with
    | none => rw [q] at h; cases h
    | some cs =>
      rw [q] at h
      cases h
      cases r
      rw [strs_rep rs q]
      rfl
  | .non :: ds, _, _, .cons r rs, h => by cases h
  | .int _ :: ds, _, _, .cons r rs, h => by cases h
  | .bl _ :: ds, _, _, .cons r rs, h => by cases h
  | .ty _ :: ds, _, _, .cons r rs, h => by cases h
  | .tup _ :: ds, _, _, .cons r rs, h => by cases h
  | .lst _ :: ds, _, _, .cons r rs, h => by cases h
  | .scr _ :: ds, _, _, .cons r rs, h => by cases h
  | .dct _ :: ds, _, _, .cons r rs, h => by cases h
def mJoin : Vl → Vl → M Vl := fun a b => match a, b with
  | .d (.str s), .d (.lst ds) => opt (strsOf ds) fun ys => if (ys.map (·.length)).sum + ys.length * s.length ≤ 100000 then pur (.d (.str (Txt.join s ys))) else stuck
  | .d (.str s), .d (.tup ds) => opt (strsOf ds) fun ys => if (ys.map (·.length)).sum + ys.length * s.length ≤ 100000 then pur (.d (.str (Txt.join s ys))) else stuck
  | _, _ => stuck
theorem mJoin_of {K : Frag} {F G H : Hp} {m : List Addr} {S : Sto} {a b : Vl} {x y : V} {Q : VK} (w : Wd K F m G S H) (ra : RepV K F m a x) (rb : RepV K F m b y) (z : res K (rV K) F m G (mJoin a b S) Q) :
    ∃ s p, ∃ ys : List Str, x = .str s ∧ [y] = [.ref p] ∧ (SqL K H p (ys.map V.str) ∨ SqT K H p (ys.map V.str)) ∧ (ys.map (·.length)).sum + ys.length * s.length ≤ 16777216 ∧ Q (.str (Txt.join s ys)) H := by
  unfold mJoin at z
  split at z
  · cases ra
    cases rb with
    | lst hb rs =>
    obtain ⟨ys, hy, z⟩ := res_opt z
    split at z
    · rename_i hl
      have e := strs_rep rs hy
      subst e
      exact ⟨_, _, ys, rfl, rfl, .inl (w.sub.seq (SqL.of hb)), by omega, res_ok w (.str _) z⟩
    · exact z.elim
  · cases ra
    cases rb with
    | tup hb rs =>
    obtain ⟨ys, hy, z⟩ := res_opt z
    split at z
    · rename_i hl
      have e := strs_rep rs hy
      subst e
      exact ⟨_, _, ys, rfl, rfl, .inr (sqT_mono w.sub hb), by omega, res_ok w (.str _) z⟩
    · exact z.elim
  · exact z.elim
def isS (a : Vl) : M Vl := match a with
  | .d (.str s) => pur (.d (.str s))
  | _ => stuck
def eJoin (f h : Env → M Vl) : Env → M Vl := fun ρ => bnd (f ρ) fun a => bnd (isS a) fun a => bnd (h ρ) fun b => mJoin a b
theorem isS_of {α β : Type} {K : Frag} {A : Hp → List Addr → α → β → Prop} {F G : Hp} {m : List Addr} {S : Sto} {a : Vl} {x : V} {k : Vl → M α} {Q : β → Hp → Prop} (ra : RepV K F m a x) (z : res K A F m G (bnd (isS a) k S) Q) : ∃ s, x = .str s ∧ a = .d (.str s) ∧ res K A F m G (k a S) Q := by
  unfold isS at z
  split at z
  · cases ra
    exact ⟨_, rfl, rfl, z⟩
  · exact z.elim
theorem me_join {o e : Expr} {f h : Env → M Vl} {apos pos : Pos} (ho : ME X o f) (he : ME X e h) (hs : starEach [e] X.env = [(false, eval e X.env)] := by rfl) (hbase : attributeBase o "join" X.env (eval o X.env) = eval o X.env := by rfl) (hline : (apos.endLine == pos.line) = true := by rfl) :
    ME X (.Call (.Attribute o "join" apos) [e] [] pos) (eJoin f h) := PE.imp (pe_join ho he hs hbase hline) fun σ H Q ⟨F, m, G, S, ρ, w, r, q⟩ => by
  refine rd_mono (rd_bnd (A := rV X.K) w r q) fun x H1 ⟨F1, m1, S1, a1, e1, w1, r1, ra, q1⟩ => ?_
  obtain ⟨s, rfl, rfl, q1⟩ := isS_of ra q1
  refine ⟨⟨s, rfl⟩, rd_mono (rd_bnd (A := rV X.K) w1 r1 q1) fun y H2 ⟨F2, m2, S2, a2, e2, w2, r2, rb, q2⟩ => ?_⟩
  exact mJoin_of w2 (RepV.mono e2 ra) rb q2
def mUpper : Vl → M Vl := fun a => match a with
  | .d (.str s) => if s.length ≤ 100000 then pur (.d (.str (Txt.upper s))) else stuck
  | _ => stuck
theorem me_upper {o : Expr} {f : Env → M Vl} {apos pos : Pos} (ho : ME X o f) (hbase : attributeBase o "upper" X.env (eval o X.env) = eval o X.env := by rfl) (hline : (apos.endLine == pos.line) = true := by rfl) :
    ME X (.Call (.Attribute o "upper" apos) [] [] pos) (eUn mUpper f) := PE.imp (pe_upper ho hbase hline) fun σ H Q ⟨F, m, G, S, ρ, w, r, q⟩ => by
  refine rd_mono (rd_bnd (A := rV X.K) w r q) fun x H1 ⟨F1, m1, S1, a1, e1, w1, r1, ra, q1⟩ => ?_
  unfold mUpper at q1
  split at q1
  · rename_i s
    cases ra
    split at q1
    · rename_i hl
      exact ⟨⟨s, rfl⟩, s, rfl, rfl, by omega, res_ok w1 (.str _) q1⟩
    · exact q1.elim
  · exact q1.elim
/-- {} -/
theorem me_dnew {pos : Pos} : ME X (.Dict [] [] pos) (eC (.dct [])) := PE.imp pe_dnewK fun σ H Q ⟨F, m, G, S, ρ, w, r, z⟩ => by
  intro p hp
  exact z _ m _ _ (Ext.lay (w.fresh hp)) (w.lay hp _) (.dct upd_same .nil)
end
/-- the law's end: from what its meaning gives at the script -/
theorem law_end {K : Frag} {H : Hp} {a : Addr} {ns : List Int} {φ : List Vl → M Vl} {E : XK} (hS : SqL K H a (ns.map V.int)) (h : ∃ S', φ [.d (.scr ns)] [] = .ok (.d (.bl true)) S') : spM K 1 φ [.ref a] H (fun v _ => v = .bl true) E := by
  obtain ⟨S', h⟩ := h
  have w : Wd K H [] (fun _ => none) [] H := ⟨Same.refl H, (fun _ _ e => by cases e), (fun _ _ e => by cases e), (fun n a e => by simp at e), rfl, (fun n a b e => by simp at e), (fun n a e => by simp at e), (fun n k a e => by simp at e)⟩
  refine ⟨rfl, H, [], fun _ => none, [], [.d (.scr ns)], w, .cons (show RepV K H [] (.d (.scr ns)) (.ref a) from .scr hS) .nil, ?_⟩
  rw [h]
  intro F' m' H' v e w r
  cases r
  rfl
end Dz

/-! Dz5: laws of the meanings. -/
namespace Dz
open PySem L2
theorem kit_ii : kitB "int" "int" = some true := by decide +kernel
theorem kit_ib : kitB "int" "bool" = some false := by decide +kernel
theorem kit_is : kitB "int" "str" = some false := by decide +kernel
theorem kit_it : kitB "int" "tuple" = some false := by decide +kernel
theorem kit_bi : kitB "bool" "int" = some true := by decide +kernel
theorem kit_bb : kitB "bool" "bool" = some true := by decide +kernel
theorem kit_bs : kitB "bool" "str" = some false := by decide +kernel
theorem kit_bt : kitB "bool" "tuple" = some false := by decide +kernel
theorem kit_si : kitB "str" "int" = some false := by decide +kernel
theorem kit_sb : kitB "str" "bool" = some false := by decide +kernel
theorem kit_ss : kitB "str" "str" = some true := by decide +kernel
theorem kit_st : kitB "str" "tuple" = some false := by decide +kernel
theorem kit_ni : kitB "NoneType" "int" = some false := by decide +kernel
theorem kit_ns : kitB "NoneType" "str" = some false := by decide +kernel
theorem kit_nt : kitB "NoneType" "tuple" = some false := by decide +kernel
theorem kit_ti : kitB "tuple" "int" = some false := by decide +kernel
theorem kit_ts : kitB "tuple" "str" = some false := by decide +kernel
theorem kit_tt : kitB "tuple" "tuple" = some true := by decide +kernel
theorem kit_li : kitB "list" "int" = some false := by decide +kernel
theorem kit_ls : kitB "list" "str" = some false := by decide +kernel
theorem kit_lt : kitB "list" "tuple" = some false := by decide +kernel
theorem kit_di : kitB "dict" "int" = some false := by decide +kernel
theorem kit_ds : kitB "dict" "str" = some false := by decide +kernel
theorem kit_dt : kitB "dict" "tuple" = some false := by decide +kernel
/-! ### a def whose body gives a datum and leaves the store -/
theorem fnM_rt {N : Nat} {s : Env → M Out} {xs : List Vl} {y : D} (h : s (startE N xs) = pur (.rt (.d y))) : fnM N s xs = pur (.d y) := by
  funext S
  unfold fnM
  rw [h]
  show gcV S.length (.d y) S = _
  unfold gcV
  rw [List.take_length]
  rfl
theorem fnM_at {N : Nat} {s : Env → M Out} {xs : List Vl} {y : D} {S S' : Sto} (h : s (startE N xs) S = .ok (.rt (.d y)) S') : fnM N s xs S = .ok (.d y) (S'.take S.length) := by
  unfold fnM
  rw [h]
  rfl
theorem bnd_at {α β : Type} {p : M α} {f : α → M β} {S S' : Sto} {a : α} (h : p S = .ok a S') : bnd p f S = f a S' := by unfold bnd; rw [h]
theorem pur_at {α : Type} (a : α) (S : Sto) : pur a S = .ok a S := rfl
theorem getC_at {n : Nat} {xs : List D} {S : Sto} (h : S[n]? = some (.lst xs)) : getC n S = .ok xs S := by unfold getC; rw [h]
end Dz

/-! Dz6: what a computation comes to. -/
namespace Dz
open PySem L2
def wp {α : Type} (p : M α) (S : Sto) (Q : α → Sto → Prop) : Prop := ∃ a S', p S = .ok a S' ∧ Q a S'
theorem wp_pur {α : Type} {a : α} {S : Sto} {Q : α → Sto → Prop} : wp (pur a) S Q ↔ Q a S := by
  refine ⟨fun ⟨b, S', e, q⟩ => ?_, fun h => ⟨a, S, rfl, h⟩⟩
  cases e
  exact q
theorem wp_bnd {α β : Type} {p : M α} {f : α → M β} {S : Sto} {Q : β → Sto → Prop} : wp (bnd p f) S Q ↔ wp p S fun a S' => wp (f a) S' Q := by
  constructor
  · rintro ⟨b, S', e, q⟩
    unfold bnd at e
    cases h : p S with
    | err => rw [h] at e; cases e
    | no => rw [h] at e; cases e
    | ok a S1 =>
      rw [h] at e
      exact ⟨a, S1, h, b, S', e, q⟩
  · rintro ⟨a, S1, h, b, S', e, q⟩
    exact ⟨b, S', by unfold bnd; rw [h]; exact e, q⟩
theorem wp_mono {α : Type} {p : M α} {S : Sto} {Q Q' : α → Sto → Prop} (h : wp p S Q) (i : ∀ a S', Q a S' → Q' a S') : wp p S Q' := by
  obtain ⟨a, S', e, q⟩ := h
  exact ⟨a, S', e, i a S' q⟩
theorem wp_eq {α : Type} {p q : M α} {S : Sto} {Q : α → Sto → Prop} (e : p = q) (h : wp q S Q) : wp p S Q := by rw [e]; exact h
theorem wp_getC {n : Nat} {xs : List D} {S : Sto} {Q : List D → Sto → Prop} (h : S[n]? = some (.lst xs)) (q : Q xs S) : wp (getC n) S Q := ⟨xs, S, getC_at h, q⟩
theorem wp_at {α : Type} {p : M α} {S S' : Sto} {a : α} {Q : α → Sto → Prop} (h : p S = .ok a S') (q : Q a S') : wp p S Q := ⟨a, S', h, q⟩
/-- a def by its body: it gives back a datum -/
theorem wp_fn {N : Nat} {s : Env → M Out} {xs : List Vl} {S : Sto} {Q : Vl → Sto → Prop} (h : wp (s (startE N xs)) S fun o S' => ∃ y, o = .rt (.d y) ∧ Q (.d y) (S'.take S.length)) : wp (fnM N s xs) S Q := by
  obtain ⟨o, S', e, y, rfl, q⟩ := h
  exact ⟨.d y, _, fnM_at e, q⟩
/-- .. a new cell -/
theorem wp_fnC {N : Nat} {s : Env → M Out} {xs : List Vl} {S : Sto} {Q : Vl → Sto → Prop} (h : wp (s (startE N xs)) S fun o S' => ∃ k b, o = .rt (.c k) ∧ S.length ≤ k ∧ S'[k]? = some b ∧ Q (.c S.length) (S'.take S.length ++ [b])) : wp (fnM N s xs) S Q := by
  obtain ⟨o, S', e, k, b, rfl, hk, hb, q⟩ := h
  refine ⟨.c S.length, _, ?_, q⟩
  unfold fnM
  rw [e]
  show gcV S.length (.c k) S' = _
  unfold gcV
  simp only []
  rw [if_neg (by omega), hb]
theorem wp_opt {α β : Type} {o : Option α} {k : α → M β} {S : Sto} {Q : β → Sto → Prop} {a : α} (h : o = some a) (q : wp (k a) S Q) : wp (opt o k) S Q := by
  subst h
  exact q
theorem wp_ifT {α : Type} {c : Prop} [Decidable c] {p q : M α} {S : Sto} {Q : α → Sto → Prop} (h : c) (z : wp p S Q) : wp (if c then p else q) S Q := by rw [if_pos h]; exact z
/-- a comprehension that leaves the store -/
theorem lcL_pure {t : Tgt} {p : Env → M Bool} {f : Env → M Vl} {ρ : Env} {b : D → Bool} {v : D → D} : ∀ (ds : List D), (∀ d ∈ ds, ∃ ρ1, gSet t d ρ = pur ρ1 ∧ p ρ1 = pur (b d) ∧ (b d = true → f ρ1 = pur (.d (v d)))) → lcL t p f ρ ds = pur ((ds.filter b).map v)
  | [], _ => rfl
  | d :: ds, h => by
    obtain ⟨ρ1, h1, h2, h3⟩ := h d List.mem_cons_self
    have ih := lcL_pure ds fun x hx => h x (List.mem_cons_of_mem _ hx)
    unfold lcL
    rw [h1, bnd_ret, h2, bnd_ret]
    cases hb : b d with
    | true =>
      show bnd (f ρ1) _ = _
      rw [h3 hb, bnd_ret]
      show bnd (lcL t p f ρ ds) _ = _
      rw [ih, bnd_ret, List.filter_cons, if_pos hb]
      rfl
    | false =>
      show lcL t p f ρ ds = _
      rw [ih, List.filter_cons, if_neg (by rw [hb]; decide)]
/-- .. that draws: by an invariant of the store -/
theorem lcL_wp {t : Tgt} {f : Env → M Vl} {ρ : Env} {I : Sto → Prop} {B : D → Prop} : ∀ (ds : List D) (S : Sto), I S → (∀ d ∈ ds, ∀ S, I S → ∃ ρ1, gSet t d ρ = pur ρ1 ∧ wp (f ρ1) S fun x S' => ∃ y, x = .d y ∧ B y ∧ I S') →
    wp (lcL t bYes f ρ ds) S fun ys S' => ys.length = ds.length ∧ (∀ y ∈ ys, B y) ∧ I S'
  | [], S, hI, _ => wp_pur.mpr ⟨rfl, fun _ h => (nomatch h), hI⟩
  | d :: ds, S, hI, h => by
    obtain ⟨ρ1, h1, h2⟩ := h d List.mem_cons_self S hI
    unfold lcL
    rw [h1, bnd_ret]
    show wp (bnd (f ρ1) _) S _
    refine wp_bnd.mpr (wp_mono h2 ?_)
    rintro _ S1 ⟨y, rfl, hB, hI1⟩
    show wp (bnd (lcL t bYes f ρ ds) _) S1 _
    refine wp_bnd.mpr (wp_mono (lcL_wp ds S1 hI1 fun x hx => h x (List.mem_cons_of_mem _ hx)) ?_)
    rintro ys S2 ⟨l, hB2, hI2⟩
    refine wp_pur.mpr ⟨by simp [l], fun z hz => ?_, hI2⟩
    rcases List.mem_cons.mp hz with rfl | hz
    · exact hB
    · exact hB2 z hz
/-- a for by an invariant: no turn leaves early -/
theorem forL_wp {t : Tgt} {s : Env → M Out} {I : Nat → Env → Sto → Prop} {Q : Out → Sto → Prop} : ∀ (ds : List D) (i : Nat) (ρ : Env) (S : Sto), I i ρ S → (∀ (j : Nat) (d : D) ρ S, ds[j]? = some d → I (i + j) ρ S → ∃ ρ1, gSet t d ρ = pur ρ1 ∧ wp (s ρ1) S fun o S' => ∃ ρ2, (o = .nx ρ2 ∨ o = .ct ρ2) ∧ I (i + j + 1) ρ2 S') →
    (∀ ρ S, I (i + ds.length) ρ S → Q (.nx ρ) S) → wp (forL t s ds ρ) S Q
  | [], i, ρ, S, hI, _, hq => wp_pur.mpr (hq ρ S hI)
  | d :: ds, i, ρ, S, hI, h, hq => by
    obtain ⟨ρ1, h1, h2⟩ := h 0 d ρ S rfl hI
    unfold forL
    rw [h1, bnd_ret]
    refine wp_bnd.mpr (wp_mono h2 ?_)
    rintro o S1 ⟨ρ2, ho, hI2⟩
    have go : wp (forL t s ds ρ2) S1 Q := forL_wp (I := I) ds (i + 1) ρ2 S1 (by simpa using hI2) (fun j d ρ S hj hI => by
      have := h (j + 1) d ρ S (by simpa using hj) (by rw [show i + (j + 1) = i + 1 + j by omega]; exact hI)
      rw [show i + (j + 1) + 1 = i + 1 + j + 1 by omega] at this
      exact this) fun ρ S hI => hq ρ S (by rw [List.length_cons, show i + (ds.length + 1) = i + 1 + ds.length by omega]; exact hI)
    rcases ho with rfl | rfl
    · exact go
    · exact go
end Dz

/-! Dz7: the steps of wp, one a combinator (for simp only). -/
namespace Dz
open PySem L2
section
variable {S : Sto} {ρ : Env} {f g h : Env → M Vl} {p q : Env → M Bool} {s t : Env → M Out} {fs : Env → M (List Vl)} {i j k : Nat}
theorem w_var {Q : Vl → Sto → Prop} : wp (eVar i ρ) S Q ↔ wp (match ρ[i]? with | some (some x) => pur x | _ => stuck) S Q := Iff.rfl
theorem w_c {d : D} {Q : Vl → Sto → Prop} : wp (eC d ρ) S Q ↔ Q (.d d) S := wp_pur
theorem w_op {o : Vl → Vl → M Vl} {Q : Vl → Sto → Prop} : wp (eOp o f g ρ) S Q ↔ wp (f ρ) S fun x S => wp (g ρ) S fun y S => wp (o x y) S Q := by
  unfold eOp
  rw [wp_bnd]
  simp only [wp_bnd]
theorem w_ix {Q : Vl → Sto → Prop} : wp (eIx f g ρ) S Q ↔ wp (f ρ) S fun x S => wp (g ρ) S fun y S => wp (gIx x y) S Q := w_op
theorem w_un {o : Vl → M Vl} {Q : Vl → Sto → Prop} : wp (eUn o f ρ) S Q ↔ wp (f ρ) S fun x S => wp (o x) S Q := wp_bnd
theorem w_test {Q : Bool → Sto → Prop} : wp (eTest f ρ) S Q ↔ wp (f ρ) S fun x S => wp (asB x) S Q := wp_bnd
theorem w_asB {b : Bool} {Q : Bool → Sto → Prop} : wp (asB (.d (.bl b))) S Q ↔ Q b S := wp_pur
theorem w_not {Q : Bool → Sto → Prop} : wp (bNot p ρ) S Q ↔ wp (p ρ) S fun b S => Q (!b) S := by
  unfold bNot
  rw [wp_bnd]
  simp only [wp_pur]
theorem w_and {Q : Bool → Sto → Prop} : wp (bAnd p q ρ) S Q ↔ wp (p ρ) S fun b S => if b = true then wp (q ρ) S Q else Q false S := by
  unfold bAnd
  rw [wp_bnd]
  constructor
  · exact fun h => wp_mono h fun b S h => by cases b with
      | true => exact h
      | false => exact wp_pur.mp h
  · exact fun h => wp_mono h fun b S h => by cases b with
      | true => exact h
      | false => exact wp_pur.mpr h
theorem w_or {Q : Bool → Sto → Prop} : wp (bOr p q ρ) S Q ↔ wp (p ρ) S fun b S => if b = true then Q true S else wp (q ρ) S Q := by
  unfold bOr
  rw [wp_bnd]
  constructor
  · exact fun h => wp_mono h fun b S h => by cases b with
      | true => exact wp_pur.mp h
      | false => exact h
  · exact fun h => wp_mono h fun b S h => by cases b with
      | true => exact wp_pur.mpr h
      | false => exact h
theorem w_if {Q : Vl → Sto → Prop} : wp (eIf p f g ρ) S Q ↔ wp (p ρ) S fun b S => if b = true then wp (f ρ) S Q else wp (g ρ) S Q := by
  unfold eIf
  rw [wp_bnd]
  constructor <;> exact fun h => wp_mono h fun b S h => by cases b <;> exact h
theorem w_sif {Q : Out → Sto → Prop} : wp (sIf p s t ρ) S Q ↔ wp (p ρ) S fun b S => if b = true then wp (s ρ) S Q else wp (t ρ) S Q := by
  unfold sIf
  rw [wp_bnd]
  constructor <;> exact fun h => wp_mono h fun b S h => by cases b <;> exact h
theorem w_chain {o o' : Vl → Vl → M Vl} {Q : Vl → Sto → Prop} : wp (eChain o o' f g h ρ) S Q ↔ wp (f ρ) S fun x S => wp (g ρ) S fun y S => wp (o x y) S fun z S => wp (asB z) S fun k S => if k = true then wp (h ρ) S fun z S => wp (o' y z) S Q else Q (.d (.bl false)) S := by
  unfold eChain
  simp only [wp_bnd]
  constructor <;> refine fun h => wp_mono h fun x S h => wp_mono h fun y S h => wp_mono h fun z S h => wp_mono h fun k S h => ?_
  · cases k with
    | true => exact wp_bnd.mp h
    | false => exact wp_pur.mp h
  · cases k with
    | true => exact wp_bnd.mpr h
    | false => exact wp_pur.mpr h
theorem w_eand {Q : Vl → Sto → Prop} : wp (eAnd f g ρ) S Q ↔ wp (f ρ) S fun x S => wp (asB x) S fun k S => if k = true then wp (g ρ) S Q else Q (.d (.bl false)) S := by
  unfold eAnd
  simp only [wp_bnd]
  constructor <;> refine fun h => wp_mono h fun x S h => wp_mono h fun k S h => ?_
  · cases k with
    | true => exact h
    | false => exact wp_pur.mp h
  · cases k with
    | true => exact h
    | false => exact wp_pur.mpr h
theorem w_eor {Q : Vl → Sto → Prop} : wp (eOr f g ρ) S Q ↔ wp (f ρ) S fun x S => wp (asB x) S fun k S => if k = true then Q (.d (.bl true)) S else wp (g ρ) S Q := by
  unfold eOr
  simp only [wp_bnd]
  constructor <;> refine fun h => wp_mono h fun x S h => wp_mono h fun k S h => ?_
  · cases k with
    | true => exact wp_pur.mp h
    | false => exact h
  · cases k with
    | true => exact wp_pur.mpr h
    | false => exact h
theorem w_enot {Q : Vl → Sto → Prop} : wp (eNot f ρ) S Q ↔ wp (f ρ) S fun x S => wp (asB x) S fun k S => Q (.d (.bl (!k))) S := by
  unfold eNot
  simp only [wp_bnd, wp_pur]
/-- what follows a statement -/
def after (t : Env → M Out) (Q : Out → Sto → Prop) (o : Out) (S : Sto) : Prop := match o with
  | .nx ρ => wp (t ρ) S Q
  | o => Q o S
theorem w_seq {Q : Out → Sto → Prop} : wp (sSeq s t ρ) S Q ↔ wp (s ρ) S (after t Q) := by
  unfold sSeq
  rw [wp_bnd]
  constructor
  · exact fun h => wp_mono h fun o S h => by cases o with
      | nx ρ => exact h
      | rt x => exact (wp_pur (Q := Q)).mp h
      | bk ρ => exact (wp_pur (Q := Q)).mp h
      | ct ρ => exact (wp_pur (Q := Q)).mp h
  · exact fun h => wp_mono h fun o S h => by cases o with
      | nx ρ => exact h
      | rt x => exact (wp_pur (Q := Q)).mpr h
      | bk ρ => exact (wp_pur (Q := Q)).mpr h
      | ct ρ => exact (wp_pur (Q := Q)).mpr h
theorem after_nx {Q : Out → Sto → Prop} : after t Q (.nx ρ) S ↔ wp (t ρ) S Q := Iff.rfl
theorem after_rt {Q : Out → Sto → Prop} {x : Vl} : after t Q (.rt x) S ↔ Q (.rt x) S := Iff.rfl
theorem w_next {Q : Out → Sto → Prop} : wp (sNext ρ) S Q ↔ Q (.nx ρ) S := wp_pur
theorem w_ret {Q : Out → Sto → Prop} : wp (sRet f ρ) S Q ↔ wp (f ρ) S fun x S => Q (.rt x) S := by
  unfold sRet
  rw [wp_bnd]
  simp only [wp_pur]
theorem w_set {Q : Out → Sto → Prop} : wp (sSet i f ρ) S Q ↔ wp (f ρ) S fun x S => Q (.nx (ρ.set i (some x))) S := by
  unfold sSet
  rw [wp_bnd]
  simp only [wp_pur]
theorem w_drop {Q : Out → Sto → Prop} : wp (sDrop f ρ) S Q ↔ wp (f ρ) S fun x S => Q (.nx ρ) S := by
  unfold sDrop
  rw [wp_bnd]
  simp only [wp_pur]
theorem w_put {Q : Out → Sto → Prop} : wp (sPut f g h ρ) S Q ↔ wp (h ρ) S fun v S => wp (f ρ) S fun o S => wp (g ρ) S fun i S => wp (setC o i v) S fun _ S => Q (.nx ρ) S := by
  unfold sPut
  simp only [wp_bnd, wp_pur]
theorem w_nil {Q : List Vl → Sto → Prop} : wp (aNil ρ) S Q ↔ Q [] S := wp_pur
theorem w_cons {Q : List Vl → Sto → Prop} : wp (aCons f fs ρ) S Q ↔ wp (f ρ) S fun x S => wp (fs ρ) S fun xs S => Q (x :: xs) S := by
  unfold aCons
  simp only [wp_bnd, wp_pur]
theorem w_cb {o : List Vl → M Vl} {Q : Vl → Sto → Prop} : wp (eCB o fs ρ) S Q ↔ wp (fs ρ) S fun xs S => wp (o xs) S Q := wp_bnd
theorem w_call {o : List Vl → M Vl} {Q : Vl → Sto → Prop} : wp (eCall o fs ρ) S Q ↔ wp (fs ρ) S fun xs S => wp (o xs) S Q := wp_bnd
theorem w_tup {Q : Vl → Sto → Prop} : wp (eTup fs ρ) S Q ↔ wp (fs ρ) S fun xs S => wp (dTup xs) S Q := wp_bnd
theorem w_lst {Q : Vl → Sto → Prop} : wp (eLst fs ρ) S Q ↔ wp (fs ρ) S fun xs S => wp (dLst xs) S Q := wp_bnd
theorem w_cell {Q : Vl → Sto → Prop} : wp (eCell fs ρ) S Q ↔ wp (fs ρ) S fun xs S => wp (dCell xs) S Q := wp_bnd
theorem w_for {it : Env → M (List D)} {tg : Tgt} {Q : Out → Sto → Prop} : wp (sFor it tg s ρ) S Q ↔ wp (it ρ) S fun ds S => wp (forL tg s ds ρ) S Q := wp_bnd
theorem w_of {o : Vl → M (List D)} {Q : List D → Sto → Prop} : wp (iOf o f ρ) S Q ↔ wp (f ρ) S fun x S => wp (o x) S Q := wp_bnd
theorem w_rg {Q : List D → Sto → Prop} : wp (iRg fs ρ) S Q ↔ wp (fs ρ) S fun xs S => wp (itR xs) S Q := wp_bnd
theorem w_new {it : Env → M (List D)} {Q : Vl → Sto → Prop} : wp (eNew it ρ) S Q ↔ wp (it ρ) S fun ds S => Q (.d (.lst ds)) S := by
  unfold eNew
  rw [wp_bnd]
  simp only [sNew, wp_pur]
theorem w_newC {it : Env → M (List D)} {Q : Vl → Sto → Prop} : wp (eNewC it ρ) S Q ↔ wp (it ρ) S fun ds S => Q (.c S.length) (S ++ [.lst ds]) := by
  unfold eNewC
  rw [wp_bnd]
  constructor
  · exact fun h => wp_mono h fun ds S ⟨a, S', e, q⟩ => by cases e; exact q
  · exact fun h => wp_mono h fun ds S q => ⟨_, _, rfl, q⟩
theorem w_lc {it : Env → M (List D)} {tg : Tgt} {own : List Nat} {Q : List D → Sto → Prop} : wp (lcF it tg p f own ρ) S Q ↔ wp (it ρ) S fun ds S => wp (if ds.length ≤ 100000 then lcL tg p f (wipeE ρ own) ds else stuck) S Q := wp_bnd
theorem w_join {Q : Vl → Sto → Prop} : wp (eJoin f g ρ) S Q ↔ wp (f ρ) S fun a S => wp (isS a) S fun a S => wp (g ρ) S fun b S => wp (mJoin a b) S Q := by
  unfold eJoin
  simp only [wp_bnd]
theorem w_isS {x : Str} {Q : Vl → Sto → Prop} : wp (isS (.d (.str x))) S Q ↔ Q (.d (.str x)) S := wp_pur
/-! primitives -/
variable {Q : Vl → Sto → Prop} {a b : Int}
theorem w_add : wp (opAdd (.d (.int a)) (.d (.int b))) S Q ↔ Q (.d (.int (a + b))) S := wp_pur
theorem w_sub : wp (opSub (.d (.int a)) (.d (.int b))) S Q ↔ Q (.d (.int (a - b))) S := wp_pur
theorem w_mul : wp (opMul (.d (.int a)) (.d (.int b))) S Q ↔ wp (if bMul a b = true then pur (.d (.int (a * b))) else stuck) S Q := Iff.rfl
theorem bMul_l {a b : Int} (h : -(2 ^ 64) < a ∧ a < 2 ^ 64) : bMul a b = true := by unfold bMul; rw [decide_eq_true h]; rfl
theorem bMul_r {a b : Int} (h : -(2 ^ 64) < b ∧ b < 2 ^ 64) : bMul a b = true := by unfold bMul; rw [decide_eq_true h, Bool.or_true]
theorem w_mul_l (h : -(2 ^ 64) < a ∧ a < 2 ^ 64) : wp (opMul (.d (.int a)) (.d (.int b))) S Q ↔ Q (.d (.int (a * b))) S := by rw [w_mul, if_pos (bMul_l h), wp_pur]
theorem w_mul_r (h : -(2 ^ 64) < b ∧ b < 2 ^ 64) : wp (opMul (.d (.int a)) (.d (.int b))) S Q ↔ Q (.d (.int (a * b))) S := by rw [w_mul, if_pos (bMul_r h), wp_pur]
theorem w_mod (h : 0 < b) : wp (opMod (.d (.int a)) (.d (.int b))) S Q ↔ Q (.d (.int (a % b))) S := by
  unfold opMod g2I
  simp only [decide_eq_true h, if_true, wp_pur]
theorem w_div (h : 0 < b ∧ b < 1073741824) : wp (opDiv (.d (.int a)) (.d (.int b))) S Q ↔ Q (.d (.int (a / b))) S := by
  unfold opDiv g2I
  simp only [decide_eq_true h, if_true, wp_pur]
theorem w_pow (h : 0 ≤ b ∧ (Builtin.Int.intBits a : Int) * b ≤ 2 ^ 27) : wp (opPow (.d (.int a)) (.d (.int b))) S Q ↔ Q (.d (.int (a ^ b.toNat))) S := by
  unfold opPow g2I
  simp only [decide_eq_true h, if_true, wp_pur]
theorem w_neg : wp (opNeg (.d (.int a))) S Q ↔ Q (.d (.int (-a))) S := wp_pur
theorem w_lt : wp (cLt (.d (.int a)) (.d (.int b))) S Q ↔ Q (.d (.bl (decide (a < b)))) S := wp_pur
theorem w_le : wp (cLe (.d (.int a)) (.d (.int b))) S Q ↔ Q (.d (.bl (decide (a ≤ b)))) S := wp_pur
theorem w_gt : wp (cGt (.d (.int a)) (.d (.int b))) S Q ↔ Q (.d (.bl (decide (b < a)))) S := wp_pur
theorem w_ge : wp (cGe (.d (.int a)) (.d (.int b))) S Q ↔ Q (.d (.bl (decide (b ≤ a)))) S := wp_pur
theorem w_ltS {x y : Str} : wp (cLt (.d (.str x)) (.d (.str y))) S Q ↔ Q (.d (.bl (decide (x.cps.toList < y.cps.toList)))) S := wp_pur
theorem w_leS {x y : Str} : wp (cLe (.d (.str x)) (.d (.str y))) S Q ↔ Q (.d (.bl (!decide (y.cps.toList < x.cps.toList)))) S := wp_pur
theorem w_is {x : D} : wp (cIs (.d x) (.d .non)) S Q ↔ Q (.d (.bl (isNon x))) S := wp_pur
theorem w_isnot {x : D} : wp (cIsNot (.d x) (.d .non)) S Q ↔ Q (.d (.bl (!isNon x))) S := wp_pur
theorem w_isi {x : D} {t T : String} {k : Bool} (h1 : tyN x = some t) (h2 : kitB t T = some k) : wp (bIsi [.d x, .d (.ty T)]) S Q ↔ Q (.d (.bl k)) S := by
  show wp (opt (tyN x) fun t => opt (kitB t T) fun b => pur (.d (.bl b))) S Q ↔ _
  rw [h1]
  show wp (opt (kitB t T) fun b => pur (.d (.bl b))) S Q ↔ _
  rw [h2]
  exact wp_pur
theorem w_eq {x y : D} {k : Bool} (h : eqD x y = some k) : wp (cEq (.d x) (.d y)) S Q ↔ Q (.d (.bl k)) S := by
  show wp (opt (eqD x y) _) S Q ↔ _
  rw [h]
  exact wp_pur
theorem w_ne {x y : D} {k : Bool} (h : eqD x y = some k) : wp (cNe (.d x) (.d y)) S Q ↔ Q (.d (.bl (!k))) S := by
  show wp (opt (eqD x y) _) S Q ↔ _
  rw [h]
  exact wp_pur
theorem w_all {ds : List D} {bs : List Bool} (h : boolsOf ds = some bs) : wp (bAll [.d (.lst ds)]) S Q ↔ Q (.d (.bl (bs.all id))) S := by
  show wp (opt (boolsOf ds) _) S Q ↔ _
  rw [h]
  exact wp_pur
theorem w_any {ds : List D} {bs : List Bool} (h : boolsOf ds = some bs) : wp (bAny [.d (.lst ds)]) S Q ↔ Q (.d (.bl (bs.any id))) S := by
  show wp (opt (boolsOf ds) _) S Q ↔ _
  rw [h]
  exact wp_pur
theorem w_inS {c : Nat} {z : Str} : wp (cIn (.d (.str ⟨#[c]⟩)) (.d (.str z))) S Q ↔ Q (.d (.bl (decide (c ∈ z.cps.toList)))) S := by
  rw [← PySem.StrLaws.found_one z c]
  exact wp_pur
theorem w_rpr {b : Bool} : wp (bRepr [.d (.bl b)]) S Q ↔ Q (.d (.str (if b then "True" else "False"))) S := wp_pur
theorem w_int : wp (tInt [.d (.int a)]) S Q ↔ Q (.d (.int a)) S := wp_pur
theorem w_intb {c : Bool} : wp (tInt [.d (.bl c)]) S Q ↔ Q (.d (.int (if c then 1 else 0))) S := wp_pur
theorem w_abs : wp (bAbs [.d (.int a)]) S Q ↔ Q (.d (.int (if a < 0 then -a else a))) S := wp_pur
theorem w_max : wp (bMax [.d (.int a), .d (.int b)]) S Q ↔ Q (.d (.int (if b > a then b else a))) S := wp_pur
theorem w_min : wp (bMin [.d (.int a), .d (.int b)]) S Q ↔ Q (.d (.int (if b < a then b else a))) S := wp_pur
theorem w_lenL {ds : List D} : wp (bLen [.d (.lst ds)]) S Q ↔ Q (.d (.int ds.length)) S := wp_pur
theorem w_lenT {ds : List D} : wp (bLen [.d (.tup ds)]) S Q ↔ Q (.d (.int ds.length)) S := wp_pur
theorem w_lenR {ds : List Int} : wp (bLen [.d (.scr ds)]) S Q ↔ Q (.d (.int ds.length)) S := wp_pur
theorem w_lenS {x : Str} (h : x.length ≤ 100000) : wp (bLen [.d (.str x)]) S Q ↔ Q (.d (.int x.length)) S := by
  unfold bLen
  simp only [if_pos h, wp_pur]
/-! the die: a cell of three ints -/
variable {n : Nat} {x y z : D}
theorem w_die0 (hn : S[n]? = some (.lst [x, y, z])) : wp (gIx (.c n) (.d (.int 0))) S Q ↔ Q (.d x) S := by
  unfold gIx
  rw [wp_bnd]
  refine ⟨fun ⟨a, S', e, q⟩ => ?_, fun q => wp_getC hn (wp_pur.mpr q)⟩
  rw [getC_at hn] at e
  cases e
  exact wp_pur.mp q
theorem w_die1 (hn : S[n]? = some (.lst [x, y, z])) : wp (gIx (.c n) (.d (.int 1))) S Q ↔ Q (.d y) S := by
  unfold gIx
  rw [wp_bnd]
  refine ⟨fun ⟨a, S', e, q⟩ => ?_, fun q => wp_getC hn (wp_pur.mpr q)⟩
  rw [getC_at hn] at e
  cases e
  exact wp_pur.mp q
theorem w_die2 (hn : S[n]? = some (.lst [x, y, z])) : wp (gIx (.c n) (.d (.int 2))) S Q ↔ Q (.d z) S := by
  unfold gIx
  rw [wp_bnd]
  refine ⟨fun ⟨a, S', e, q⟩ => ?_, fun q => wp_getC hn (wp_pur.mpr q)⟩
  rw [getC_at hn] at e
  cases e
  exact wp_pur.mp q
theorem w_putAt {xs : List D} {k : Int} {j : Nat} {v : D} {Q : Unit → Sto → Prop} (hn : S[n]? = some (.lst xs)) (hj : ixN xs.length k = some j) : wp (setC (.c n) (.d (.int k)) (.d v)) S Q ↔ Q () (S.set n (.lst (xs.set j v))) := by
  have e : setC (.c n) (.d (.int k)) (.d v) S = .ok () (S.set n (.lst (xs.set j v))) := by
    unfold setC
    simp only [hn, hj]
  refine ⟨fun ⟨a, S', e', q⟩ => ?_, fun q => ⟨(), _, e, q⟩⟩
  rw [e] at e'
  cases e'
  exact q
theorem w_put0 {v : D} {Q : Unit → Sto → Prop} (hn : S[n]? = some (.lst [x, y, z])) : wp (setC (.c n) (.d (.int 0)) (.d v)) S Q ↔ Q () (S.set n (.lst [v, y, z])) := w_putAt (j := 0) hn rfl
theorem w_put2 {v : D} {Q : Unit → Sto → Prop} (hn : S[n]? = some (.lst [x, y, z])) : wp (setC (.c n) (.d (.int 2)) (.d v)) S Q ↔ Q () (S.set n (.lst [x, y, v])) := w_putAt (j := 2) hn rfl
end
/-! draws -/
def Die (n : Nat) (S : Sto) : Prop := ∃ a b c, S[n]? = some (.lst [.int a, .int b, .int c])
/-- the store but for the die -/
def Drw (n : Nat) (S S' : Sto) : Prop := ∃ a b c, S' = S.set n (.lst [.int a, .int b, .int c])
theorem Drw.refl {n : Nat} {S : Sto} (h : Die n S) : Drw n S S := by
  obtain ⟨a, b, c, h⟩ := h
  refine ⟨a, b, c, ?_⟩
  obtain ⟨hn, e⟩ := List.getElem?_eq_some_iff.mp h
  rw [← e, List.set_getElem_self]
theorem Drw.trans {n : Nat} {S S1 S2 : Sto} (h : Drw n S S1) (k : Drw n S1 S2) : Drw n S S2 := by
  obtain ⟨a, b, c, rfl⟩ := h
  obtain ⟨a', b', c', rfl⟩ := k
  exact ⟨a', b', c', by rw [List.set_set]⟩
theorem Drw.die {n : Nat} {S S1 : Sto} (h : Drw n S S1) (d : Die n S) : Die n S1 := by
  obtain ⟨a, b, c, rfl⟩ := h
  obtain ⟨_, _, _, d⟩ := d
  exact ⟨a, b, c, List.getElem?_set_self (List.getElem?_eq_some_iff.mp d).1⟩
theorem Drw.len {n : Nat} {S S1 : Sto} (h : Drw n S S1) : S1.length = S.length := by
  obtain ⟨a, b, c, rfl⟩ := h
  rw [List.length_set]
theorem Drw.take {n : Nat} {S S1 : Sto} (h : Drw n S S1) : S1.take S.length = S1 := by
  rw [← h.len, List.take_length]
open PySem.PyData in
theorem eqD_str {x y : Str} (hx : strOk x = true) (hy : strOk y = true) : eqD (.str x) (.str y) = some (x == y) := by
  unfold eqD pyOf
  have h1 : SeqAt.shaped (.str x) = true := by
    unfold SeqAt.shaped PyData.canLay0
    rw [hx]
    rfl
  have h2 : SeqAt.shaped (.str y) = true := by
    unfold SeqAt.shaped PyData.canLay0
    rw [hy]
    rfl
  simp only [h1, h2, Bool.and_self, if_true]
  rfl
theorem eqD_int (x y : Int) : eqD (.int x) (.int y) = some (x == y) := rfl
theorem eqD_bl (x y : Bool) : eqD (.bl x) (.bl y) = some (x == y) := rfl
/-- a computation that always gives the same and leaves the store -/
theorem pur_of {α : Type} {p : M α} {a : α} (h : ∀ S, wp p S fun x S' => x = a ∧ S' = S) : p = pur a := by
  funext S
  obtain ⟨x, S', e, rfl, rfl⟩ := h S
  exact e
theorem fn_pure {N : Nat} {s : Env → M Out} {xs : List Vl} {y : D} (h : ∀ S, wp (s (startE N xs)) S fun o S' => o = .rt (.d y) ∧ S' = S) : fnM N s xs = pur (.d y) := fnM_rt (pur_of h)
theorem wp_of {α : Type} {p : M α} {a : α} {S : Sto} {Q : α → Sto → Prop} (e : p = pur a) (q : Q a S) : wp p S Q := by
  rw [e]
  exact wp_pur.mpr q
theorem w_itS {z : Str} {S : Sto} {Q : List D → Sto → Prop} : wp (itS (.d (.str z))) S Q ↔ Q (Dz.signs z) S := wp_pur
theorem w_itL {ds : List D} {S : Sto} {Q : List D → Sto → Prop} : wp (itL (.d (.lst ds))) S Q ↔ Q ds S := wp_pur
theorem w_itLs {ds : List Int} {S : Sto} {Q : List D → Sto → Prop} : wp (itL (.d (.scr ds))) S Q ↔ Q (ds.map D.int) S := wp_pur
theorem w_itT {ds : List D} {S : Sto} {Q : List D → Sto → Prop} : wp (itT (.d (.tup ds))) S Q ↔ Q ds S := wp_pur
theorem w_itR {j : Int} {S : Sto} {Q : List D → Sto → Prop} (h : -(2 ^ 62) ≤ j ∧ j < 2 ^ 62) : wp (itR [.d (.int j)]) S Q ↔ Q (dInts 0 j.toNat) S := by
  show wp (if _ then _ else _) S Q ↔ _
  rw [if_pos h]
  exact wp_pur
theorem dInts_len (lo : Int) (n : Nat) : (dInts lo n).length = n := by
  unfold dInts
  rw [List.length_map, List.length_range]
theorem dInts_get {lo : Int} {n i : Nat} {d : D} (h : (dInts lo n)[i]? = some d) : i < n ∧ d = .int (lo + i) := by
  unfold dInts at h
  rw [List.getElem?_map] at h
  by_cases hi : i < n
  · rw [List.getElem?_range hi] at h
    cases h
    exact ⟨hi, rfl⟩
  · rw [List.getElem?_eq_none (by rw [List.length_range]; omega)] at h
    cases h
theorem boolsOf_map {α : Type} (b : α → Bool) : ∀ l : List α, boolsOf (l.map fun x => .bl (b x)) = some (l.map b)
  | [] => rfl
  | x :: l => by
    show (match boolsOf (l.map fun x => D.bl (b x)) with | some bs => some (b x :: bs) | none => none) = _
    rw [boolsOf_map b l]
    rfl
open PySem.PyData in
theorem strOk_ascii {z : Str} (h : ∀ c ∈ z.cps.toList, c < 128) : strOk z = true := by
  unfold strOk
  rw [Array.all_eq_true']
  intro c hc
  have := h c (by simpa using hc)
  simp
  omega
theorem lcL_map {α : Type} {t : Tgt} {p : Env → M Bool} {f : Env → M Vl} {ρ : Env} {k : α → D} {ρ1 : α → Env} {b : α → Bool} {v : α → D} : ∀ (l : List α), (∀ a ∈ l, gSet t (k a) ρ = pur (ρ1 a) ∧ p (ρ1 a) = pur (b a) ∧ (b a = true → f (ρ1 a) = pur (.d (v a)))) → lcL t p f ρ (l.map k) = pur ((l.filter b).map v)
  | [], _ => rfl
  | a :: l, h => by
    obtain ⟨h1, h2, h3⟩ := h a List.mem_cons_self
    have ih := lcL_map l fun x hx => h x (List.mem_cons_of_mem _ hx)
    rw [List.map_cons]
    unfold lcL
    rw [h1, bnd_ret, h2, bnd_ret]
    cases hb : b a with
    | true =>
      show bnd (f (ρ1 a)) _ = _
      rw [h3 hb, bnd_ret]
      show bnd (lcL t p f ρ (l.map k)) _ = _
      rw [ih, bnd_ret, List.filter_cons, if_pos hb]
      rfl
    | false =>
      show lcL t p f ρ (l.map k) = _
      rw [ih, List.filter_cons, if_neg (by rw [hb]; decide)]
theorem pur_wp {α : Type} {p : M α} {a : α} (h : ∀ S (Q : α → Sto → Prop), Q a S → wp p S Q) : p = pur a := pur_of fun S => h S _ ⟨rfl, rfl⟩
/-! displays -/
def kTup (ds : List D) : M Vl := if ds.length ≤ 100000 then pur (.d (.tup ds)) else stuck
def kLst (ds : List D) : M Vl := if ds.length ≤ 100000 then pur (.d (.lst ds)) else stuck
theorem w_dtup {xs : List Vl} {S : Sto} {Q : Vl → Sto → Prop} : wp (dTup xs) S Q ↔ wp (opt (asDs xs) kTup) S Q := by
  unfold dTup opt
  cases asDs xs <;> exact Iff.rfl
theorem w_dlst {xs : List Vl} {S : Sto} {Q : Vl → Sto → Prop} : wp (dLst xs) S Q ↔ wp (opt (asDs xs) kLst) S Q := by
  unfold dLst opt
  cases asDs xs <;> exact Iff.rfl
theorem asDs_nil : asDs [] = some [] := rfl
theorem asDs_cons {x : D} {r : List Vl} : asDs (.d x :: r) = (asDs r).map (x :: ·) := by
  show (match asDs r with | some ds => some (x :: ds) | none => none) = _
  cases asDs r <;> rfl
theorem w_some {α β : Type} {a : α} {k : α → M β} {S : Sto} {Q : β → Sto → Prop} : wp (opt (some a) k) S Q ↔ wp (k a) S Q := Iff.rfl
theorem w_kTup {ds : List D} {S : Sto} {Q : Vl → Sto → Prop} (h : ds.length ≤ 100000) : wp (kTup ds) S Q ↔ Q (.d (.tup ds)) S := by
  unfold kTup
  rw [if_pos h]
  exact wp_pur
theorem w_kLst {ds : List D} {S : Sto} {Q : Vl → Sto → Prop} (h : ds.length ≤ 100000) : wp (kLst ds) S Q ↔ Q (.d (.lst ds)) S := by
  unfold kLst
  rw [if_pos h]
  exact wp_pur
theorem w_addL {xs ys : List D} {S : Sto} {Q : Vl → Sto → Prop} (h : xs.length + ys.length ≤ 100000) : wp (opAdd (.d (.lst xs)) (.d (.lst ys))) S Q ↔ Q (.d (.lst (xs ++ ys))) S := by
  show wp (if _ then _ else _) S Q ↔ _
  rw [if_pos h]
  exact wp_pur
theorem w_addT {xs ys : List D} {S : Sto} {Q : Vl → Sto → Prop} (h : xs.length + ys.length ≤ 100000) : wp (opAdd (.d (.tup xs)) (.d (.tup ys))) S Q ↔ Q (.d (.tup (xs ++ ys))) S := by
  show wp (if _ then _ else _) S Q ↔ _
  rw [if_pos h]
  exact wp_pur
theorem w_addS {xs ys : Str} {S : Sto} {Q : Vl → Sto → Prop} (h : xs.length + ys.length ≤ 100000) : wp (opAdd (.d (.str xs)) (.d (.str ys))) S Q ↔ Q (.d (.str (xs ++ ys))) S := by
  show wp (if _ then _ else _) S Q ↔ _
  rw [if_pos h]
  exact wp_pur
theorem w_upper {x : Str} {S : Sto} {Q : Vl → Sto → Prop} (h : x.length ≤ 100000) : wp (mUpper (.d (.str x))) S Q ↔ Q (.d (.str (Txt.upper x))) S := by
  show wp (if _ then _ else _) S Q ↔ _
  rw [if_pos h]
  exact wp_pur
theorem w_strI {i : Int} {S : Sto} {Q : Vl → Sto → Prop} (h : i.natAbs.log2 < 1920) : wp (tStr [.d (.int i)]) S Q ↔ Q (.d (.str (toString i))) S := by
  show wp (if _ then _ else _) S Q ↔ _
  rw [if_pos h]
  exact wp_pur
end Dz

namespace K01
open PySem PySem.Spec PyProof.Rows L2 Dz
/-! ### the text -/
def topS (i : Nat) : Stmt := PySem.Challenge.pw_deepenough_k01_names_and_limits.main.body.getD i (.Pass ⟨0, 0, 0, 0⟩)
abbrev c_LETTERS : Str := "abcdefghijklmnopqrstuvwxyz"
abbrev c_MAX_LETTERS : Int := 8
abbrev c_TOP : Int := 10000000000000000000000000000000000000000
abbrev s_is_integer : Stmt := topS 4
abbrev N_is_integer : List Str := ["value"]
theorem sc_is_integer : FnScope N_is_integer ["value"] (defScope s_is_integer) := ⟨rfl, rfl, rfl, by decide +kernel, rfl, by decide +kernel, by decide +kernel⟩
abbrev s_is_below : Stmt := topS 5
abbrev N_is_below : List Str := ["value", "limit"]
theorem sc_is_below : FnScope N_is_below ["value", "limit"] (defScope s_is_below) := ⟨rfl, rfl, rfl, by decide +kernel, rfl, by decide +kernel, by decide +kernel⟩
abbrev s_is_name : Stmt := topS 6
abbrev N_is_name : List Str := ["value", "letter"]
theorem sc_is_name : FnScope N_is_name ["value"] (defScope s_is_name) := ⟨rfl, rfl, rfl, by decide +kernel, rfl, by decide +kernel, by decide +kernel⟩
abbrev s_is_limit : Stmt := topS 7
abbrev N_is_limit : List Str := ["value"]
theorem sc_is_limit : FnScope N_is_limit ["value"] (defScope s_is_limit) := ⟨rfl, rfl, rfl, by decide +kernel, rfl, by decide +kernel, by decide +kernel⟩
abbrev s__law_numbers : Stmt := topS 9
abbrev N__law_numbers : List Str := ["_law_script", "_law_at", "_law_cell", "_law_whole", "_law_mixed"]
theorem sc__law_numbers : FnScope N__law_numbers ["_law_script", "_law_at"] (defScope s__law_numbers) := ⟨rfl, rfl, rfl, by decide +kernel, rfl, by decide +kernel, by decide +kernel⟩
abbrev s__law_cast : Stmt := topS 10
abbrev N__law_cast : List Str := ["_law_die", "_law_total", "_law_one", "_law_two", "_law_found"]
theorem sc__law_cast : FnScope N__law_cast ["_law_die", "_law_total"] (defScope s__law_cast) := ⟨rfl, rfl, rfl, by decide +kernel, rfl, by decide +kernel, by decide +kernel⟩
abbrev s__law_pick : Stmt := topS 11
abbrev N__law_pick : List Str := ["_law_die", "_law_items"]
theorem sc__law_pick : FnScope N__law_pick ["_law_die", "_law_items"] (defScope s__law_pick) := ⟨rfl, rfl, rfl, by decide +kernel, rfl, by decide +kernel, by decide +kernel⟩
abbrev s__law_is_number : Stmt := topS 12
abbrev N__law_is_number : List Str := ["_law_value", "_law_total"]
theorem sc__law_is_number : FnScope N__law_is_number ["_law_value", "_law_total"] (defScope s__law_is_number) := ⟨rfl, rfl, rfl, by decide +kernel, rfl, by decide +kernel, by decide +kernel⟩
abbrev s__law_is_word : Stmt := topS 13
abbrev N__law_is_word : List Str := ["_law_value", "_law_one"]
theorem sc__law_is_word : FnScope N__law_is_word ["_law_value"] (defScope s__law_is_word) := ⟨rfl, rfl, rfl, by decide +kernel, rfl, by decide +kernel, by decide +kernel⟩
abbrev s__law_odd_one : Stmt := topS 14
abbrev N__law_odd_one : List Str := ["_law_die", "_law_some"]
theorem sc__law_odd_one : FnScope N__law_odd_one ["_law_die"] (defScope s__law_odd_one) := ⟨rfl, rfl, rfl, by decide +kernel, rfl, by decide +kernel, by decide +kernel⟩
abbrev s__law_right : Stmt := topS 15
abbrev N__law_right : List Str := ["_law_die", "_law_letters", "_law_word", "_law_number", "_law_turn", "_law_some", "_law_value"]
theorem sc__law_right : FnScope N__law_right ["_law_die"] (defScope s__law_right) := ⟨rfl, rfl, rfl, by decide +kernel, rfl, by decide +kernel, by decide +kernel⟩
abbrev s_law : Stmt := topS 16
abbrev N_law : List Str := ["_law_script", "_law_at", "_law_told", "_law_die", "_law_turn", "_law_word"]
theorem sc_law : FnScope N_law ["_law_script"] (defScope s_law) := ⟨rfl, rfl, rfl, by decide +kernel, rfl, by decide +kernel, by decide +kernel⟩
/-! ### what each def means -/
def b_is_integer : Dz.Env → M Out := sRet (eAnd (eCB bIsi (aCons (eVar 0) (aCons (eC (.ty "int")) (aNil)))) (eAnd (eNot (eCB bIsi (aCons (eVar 0) (aCons (eC (.ty "bool")) (aNil))))) (eChain cLt cLt (eUn opNeg (eC (.int c_TOP))) (eVar 0) (eC (.int c_TOP)))))
def f_is_integer : List Vl → M Vl := fnM 1 b_is_integer
def b_is_name : Dz.Env → M Out := sSeq (sIf (bOr (bNot (eTest (eCB bIsi (aCons (eVar 0) (aCons (eC (.ty "str")) (aNil)))))) (bNot (eTest (eChain cLt cLe (eC (.int 0)) (eCB bLen (aCons (eVar 0) (aNil))) (eC (.int c_MAX_LETTERS)))))) (sRet (eC (.bl false))) (sNext)) (sRet (eCB bAll (aCons (eNew (lcF (iOf itS (eVar 0)) (.one 1) (bYes) (eOp cIn (eVar 1) (eC (.str c_LETTERS))) [1])) (aNil))))
def f_is_name : List Vl → M Vl := fnM 2 b_is_name
def b__law_numbers : Dz.Env → M Out := sSeq (sSet 2 (eIf (eTest (eOp cLt (eVar 1) (eCB bLen (aCons (eVar 0) (aNil))))) (eIx (eVar 0) (eVar 1)) (eOp opAdd (eOp opMul (eC (.int 59)) (eVar 1)) (eC (.int 17))))) (sSeq (sSet 3 (eOp opMod (eCB tInt (aCons (eCB bAbs (aCons (eVar 2) (aNil))) (aNil))) (eOp opPow (eOp opPow (eC (.int 10)) (eC (.int 59))) (eC (.int 11))))) (sSeq (sSet 4 (eOp opAdd (eOp opAdd (eOp opAdd (eOp opMul (eVar 3) (eC (.int 1000121))) (eOp opMul (eC (.int 8219)) (eVar 1))) (eOp opMul (eC (.int 31)) (eCB tInt (aCons (eOp cLt (eVar 2) (eC (.int 0))) (aNil))))) (eC (.int 7)))) (sRet (eCell (aCons (eCB bMax (aCons (eC (.int 0)) (aCons (eOp opSub (eVar 3) (eOp opPow (eC (.int 10)) (eC (.int 16)))) (aNil)))) (aCons (eOp opMod (eCB tInt (aCons (eVar 4) (aNil))) (eC (.int 1152921504606846817))) (aCons (eC (.int 0)) (aNil))))))))
def f__law_numbers : List Vl → M Vl := fnM 5 b__law_numbers
def b__law_cast : Dz.Env → M Out := sSeq (sIf (eTest (eOp cGt (eIx (eVar 0) (eC (.int 0))) (eC (.int 0)))) (sSeq (sSet 4 (eOp opMod (eCB tInt (aCons (eIx (eVar 0) (eC (.int 0))) (aNil))) (eVar 1))) (sSeq (sPut (eVar 0) (eC (.int 0)) (eOp opDiv (eIx (eVar 0) (eC (.int 0))) (eVar 1))) (sRet (eVar 4)))) (sNext)) (sSeq (sPut (eVar 0) (eC (.int 2)) (eOp opAdd (eIx (eVar 0) (eC (.int 2))) (eC (.int 1)))) (sSeq (sSet 2 (eOp opMod (eCB tInt (aCons (eOp opAdd (eIx (eVar 0) (eC (.int 1))) (eOp opMul (eC (.int 776531491)) (eIx (eVar 0) (eC (.int 2))))) (aNil))) (eC (.int 2305843009213693907)))) (sSeq (sSet 3 (eOp opAdd (eOp opMul (eOp opMod (eCB tInt (aCons (eOp opMul (eVar 2) (eVar 2)) (aNil))) (eC (.int 1152921504606846619))) (eVar 2)) (eOp opMul (eC (.int 7057)) (eIx (eVar 0) (eC (.int 2)))))) (sRet (eOp opMod (eCB tInt (aCons (eOp opDiv (eOp opMod (eCB tInt (aCons (eOp opAdd (eVar 3) (eIx (eVar 0) (eC (.int 1)))) (aNil))) (eC (.int 8796093022091))) (eC (.int 32))) (aNil))) (eVar 1))))))
def f__law_cast : List Vl → M Vl := fnM 5 b__law_cast
def b__law_is_number : Dz.Env → M Out := sRet (eAnd (eCB bIsi (aCons (eVar 0) (aCons (eC (.ty "int")) (aNil)))) (eAnd (eNot (eCB bIsi (aCons (eVar 0) (aCons (eC (.ty "bool")) (aNil))))) (eChain cLe cLt (eC (.int 0)) (eVar 0) (eVar 1))))
def f__law_is_number : List Vl → M Vl := fnM 2 b__law_is_number
def b__law_is_word : Dz.Env → M Out := sSeq (sIf (bOr (bNot (eTest (eCB bIsi (aCons (eVar 0) (aCons (eC (.ty "str")) (aNil)))))) (bNot (eTest (eChain cLe cLe (eC (.int 1)) (eCB bLen (aCons (eVar 0) (aNil))) (eC (.int 8)))))) (sRet (eC (.bl false))) (sNext)) (sRet (eOp cEq (eNew (lcF (iOf itS (eVar 0)) (.one 1) (bNot (eTest (eChain cLe cLe (eC (.str "a")) (eVar 1) (eC (.str "z"))))) (eVar 1) [1])) (eLst (aNil))))
def f__law_is_word : List Vl → M Vl := fnM 2 b__law_is_word
def b_is_below : Dz.Env → M Out := sRet (eAnd (eCall f_is_integer (aCons (eVar 0) (aNil))) (eChain cLe cLt (eC (.int 0)) (eVar 0) (eVar 1)))
def f_is_below : List Vl → M Vl := fnM 2 b_is_below
def b__law_pick : Dz.Env → M Out := sRet (eIx (eVar 1) (eCall f__law_cast (aCons (eVar 0) (aCons (eCB bLen (aCons (eVar 1) (aNil))) (aNil)))))
def f__law_pick : List Vl → M Vl := fnM 2 b__law_pick
def b_is_limit : Dz.Env → M Out := sRet (eOr (eOp cIs (eVar 0) (eC .non)) (eCall f_is_below (aCons (eVar 0) (aCons (eC (.int c_TOP)) (aNil)))))
def f_is_limit : List Vl → M Vl := fnM 1 b_is_limit
def b__law_odd_one : Dz.Env → M Out := sSeq (sSet 1 (eLst (aCons (eC .non) (aCons (eC (.int 0)) (aCons (eC (.int 1)) (aCons (eC (.int 7)) (aCons (eC (.int 99)) (aCons (eUn opNeg (eC (.int 1))) (aCons (eC (.bl true)) (aCons (eC (.bl false)) (aCons (eC (.str "")) (aCons (eC (.str "a")) (aCons (eC (.str "B")) (aCons (eC (.str "abcdefghi")) (aCons (eTup (aNil)) (aCons (eTup (aCons (eC (.int 0)) (aNil))) (aCons (eTup (aCons (eC (.int 1)) (aCons (eC (.int 0)) (aNil)))) (aCons (eTup (aCons (eC (.int 0)) (aCons (eC (.int 0)) (aNil)))) (aCons (eLst (aCons (eC (.int 0)) (aNil))) (aCons (eC (.dct [])) (aCons (eC (.str "p")) (aNil)))))))))))))))))))))) (sSeq (sSet 1 (eOp opAdd (eVar 1) (eLst (aCons (eOp opPow (eC (.int 10)) (eC (.int 39))) (aCons (eTup (aCons (eC .non) (aNil))) (aCons (eTup (aCons (eTup (aCons (eC (.int 0)) (aCons (eC (.int 0)) (aNil)))) (aNil))) (aCons (eTup (aCons (eTup (aCons (eC (.int 0)) (aCons (eC (.int 0)) (aNil)))) (aCons (eTup (aCons (eC (.int 0)) (aCons (eC (.int 0)) (aNil)))) (aNil)))) (aCons (eTup (aCons (eC (.str "a")) (aNil))) (aCons (eTup (aCons (eC (.str "p")) (aCons (eC (.int 0)) (aNil)))) (aCons (eC (.str "go")) (aCons (eC (.str "fail")) (aCons (eC (.str "left")) (aNil))))))))))))) (sRet (eCall f__law_pick (aCons (eVar 0) (aCons (eVar 1) (aNil))))))
def f__law_odd_one : List Vl → M Vl := fnM 2 b__law_odd_one
def b__law_right : Dz.Env → M Out := sSeq (sSet 1 (eC (.str "abcdefghijklmnopqrstuvwxyz"))) (sSeq (sSet 2 (eJoin (eC (.str "")) (eNew (lcF (iRg (aCons (eCall f__law_cast (aCons (eVar 0) (aCons (eC (.int 10)) (aNil)))) (aNil))) (.one 4) (bYes) (eCall f__law_pick (aCons (eVar 0) (aCons (eVar 1) (aNil)))) [4])))) (sSeq (sSet 3 (eC (.int 0))) (sSeq (sFor (iRg (aCons (eOp opAdd (eC (.int 1)) (eCall f__law_cast (aCons (eVar 0) (aCons (eC (.int 39)) (aNil))))) (aNil))) (.one 4) (sSet 3 (eOp opAdd (eOp opMul (eVar 3) (eC (.int 10))) (eCall f__law_cast (aCons (eVar 0) (aCons (eC (.int 10)) (aNil))))))) (sSeq (sSet 5 (eLst (aCons (eVar 2) (aCons (eOp opAdd (eVar 2) (eCall f__law_pick (aCons (eVar 0) (aCons (eLst (aCons (eC (.str " ")) (aCons (eC (.str "A")) (aCons (eC (.str "0")) (aCons (eC (.str "_")) (aCons (eC (.str "z")) (aNil))))))) (aNil))))) (aCons (eUn mUpper (eVar 2)) (aCons (eCall f__law_odd_one (aCons (eVar 0) (aNil))) (aCons (eVar 3) (aCons (eUn opNeg (eVar 3)) (aNil))))))))) (sSeq (sSet 5 (eOp opAdd (eVar 5) (eLst (aCons (eOp opSub (eVar 3) (eOp opPow (eC (.int 10)) (eC (.int 38)))) (aCons (eCB tStr (aCons (eVar 3) (aNil))) (aCons (eTup (aCons (eVar 3) (aNil))) (aCons (eC .non) (aCons (eC (.bl true)) (aCons (eC (.bl false)) (aCons (eC (.int 0)) (aCons (eUn opNeg (eC (.int 1))) (aCons (eOp opSub (eOp opPow (eC (.int 10)) (eC (.int 40))) (eC (.int 1))) (aCons (eLst (aCons (eVar 2) (aNil))) (aNil)))))))))))))) (sSeq (sFor (iOf itL (eVar 5)) (.one 6) (sSeq (sIf (eTest (eOp cNe (eCB bRepr (aCons (eCall f_is_name (aCons (eVar 6) (aNil))) (aNil))) (eCB bRepr (aCons (eCall f__law_is_word (aCons (eVar 6) (aNil))) (aNil))))) (sRet (eC (.bl false))) (sNext)) (sIf (eTest (eOp cNe (eCB bRepr (aCons (eCall f_is_limit (aCons (eVar 6) (aNil))) (aNil))) (eCB bRepr (aCons (eOr (eOp cIs (eVar 6) (eC .non)) (eCall f__law_is_number (aCons (eVar 6) (aCons (eOp opPow (eC (.int 10)) (eC (.int 40))) (aNil))))) (aNil))))) (sRet (eC (.bl false))) (sNext)))) (sRet (eC (.bl true)))))))))
def f__law_right : List Vl → M Vl := fnM 7 b__law_right
def b_law : Dz.Env → M Out := sSeq (sFor (iRg (aCons (eCB bMax (aCons (eC (.int 1)) (aCons (eCB bMin (aCons (eC (.int 8)) (aCons (eCB bLen (aCons (eVar 0) (aNil))) (aNil)))) (aNil)))) (aNil))) (.one 1) (sSeq (sSet 3 (eCall f__law_numbers (aCons (eVar 0) (aCons (eVar 1) (aNil))))) (sFor (iRg (aCons (eC (.int 4)) (aNil))) (.one 4) (sIf (bNot (eTest (eCall f__law_right (aCons (eVar 3) (aNil))))) (sRet (eC (.bl false))) (sNext))))) (sSeq (sSet 2 (eNew (lcF (iOf itT (eTup (aCons (eC (.str "a")) (aCons (eC (.str "zzzzzzzz")) (aCons (eC (.str "aaaaaaaaa")) (aCons (eC (.str "")) (aCons (eC (.str "none")) (aNil)))))))) (.one 5) (bYes) (eCall f_is_name (aCons (eVar 5) (aNil))) [5]))) (sRet (eAnd (eOp cEq (eVar 2) (eLst (aCons (eC (.bl true)) (aCons (eC (.bl true)) (aCons (eC (.bl false)) (aCons (eC (.bl false)) (aCons (eC (.bl true)) (aNil)))))))) (eOp cEq (eLst (aCons (eCall f_is_limit (aCons (eC .non) (aNil))) (aCons (eCall f_is_limit (aCons (eC (.bl true)) (aNil))) (aNil)))) (eLst (aCons (eC (.bl true)) (aCons (eC (.bl false)) (aNil))))))))
def f_law : List Vl → M Vl := fnM 6 b_law
/-! ### what the top leaves -/
abbrev FnP (K : Frag) (x : Str) (st : Stmt) (f : Addr) (fd : FuncData) : Prop := FunD K x x (defArgs st) (defBody st) (defScope st) [] [] f fd
structure Txt0 (K : Frag) (mg : Str → Option Value) : Prop where
  z_abs : mg "abs" = none
  z_all : mg "all" = none
  z_bool : mg "bool" = none
  z_int : mg "int" = none
  z_isinstance : mg "isinstance" = none
  z_len : mg "len" = none
  z_max : mg "max" = none
  z_min : mg "min" = none
  z_range : mg "range" = none
  z_repr : mg "repr" = none
  z_str : mg "str" = none
  c_LETTERS : ∃ t, mg "LETTERS" = some (.str c_LETTERS t)
  c_MAX_LETTERS : ∃ t, mg "MAX_LETTERS" = some (.int c_MAX_LETTERS t)
  c_TOP : ∃ t, mg "TOP" = some (.int c_TOP t)
/-- a def of the text, with its meaning -/
structure Dn (P : Program) (w : World) (K : Frag) (mg : Str → Option Value) (x : Str) (k : Nat) (ps : List Str) (φ : List Vl → M Vl) (f : Addr) (fd : FuncData) : Prop where
  g : mg x = some (.ref f)
  kp : PySem.W.keepIn K (.ref f) = true
  b : Binds K fd ps []
  o : ∀ base : Heap, FnOk P w K mg base CX0 k f fd ps (spM K ps.length φ)
section
variable {P : Program} {w : World} {K : Frag} {mg : Str → Option Value}
set_option maxHeartbeats 4000000 in
theorem ok_is_integer {f : Addr} {fd : FuncData} (T : Txt0 K mg) (F : FnP K "is_integer" s_is_integer f fd) (g : mg "is_integer" = some (.ref f)) : Dn P w K mg "is_integer" 1 ["value"] f_is_integer f fd := by
  obtain ⟨t_TOP, q_TOP⟩ := T.c_TOP
  refine ⟨g, F.kp, F.bindsN fun _ _ _ _ _ _ us hl => match us, hl with | [_], _ => rfl, fun base => fn_okD F sc_is_integer fun cdv A outer s H E hr => ?_⟩
  have hu := hr.units
  exact ms_one (ms_ret (me_and (me_callB (cm_isi) rfl T.z_isinstance (by decide +kernel) (ma_cons (me_var 0) (ma_cons (me_ty rfl T.z_int (by decide +kernel)) (ma_nil)))) (me_and (me_not (me_callB (cm_isi) rfl T.z_isinstance (by decide +kernel) (ma_cons (me_var 0) (ma_cons (me_ty rfl T.z_bool (by decide +kernel)) (ma_nil))))) (me_one (me_chain om_lt om_lt (me_un um_neg (me_gint rfl q_TOP )) (me_var 0) (me_gint rfl q_TOP ))))))
set_option maxHeartbeats 4000000 in
theorem ok_is_name {f : Addr} {fd : FuncData} (T : Txt0 K mg) (F : FnP K "is_name" s_is_name f fd) (g : mg "is_name" = some (.ref f)) : Dn P w K mg "is_name" 1 ["value"] f_is_name f fd := by
  obtain ⟨t_LETTERS, q_LETTERS⟩ := T.c_LETTERS
  obtain ⟨t_MAX_LETTERS, q_MAX_LETTERS⟩ := T.c_MAX_LETTERS
  refine ⟨g, F.kp, F.bindsN fun _ _ _ _ _ _ us hl => match us, hl with | [_], _ => rfl, fun base => fn_okD F sc_is_name fun cdv A outer s H E hr => ?_⟩
  have hu := hr.units
  exact ms_cons (ms_if (mt_w (mw_or (mt_not (mt_val (me_callB (cm_isi) rfl T.z_isinstance (by decide +kernel) (ma_cons (me_var 0) (ma_cons (me_ty rfl T.z_str (by decide +kernel)) (ma_nil)))))) (mw_or1 (mt_not (mt_chain om_lt om_le (me_int) (me_callB (cm_len) rfl T.z_len (by decide +kernel) (ma_cons (me_var 0) (ma_nil))) (me_gint rfl q_MAX_LETTERS )))))) (ms_one (ms_ret (me_bl))) (ms_nil)) (ms_one (ms_ret (me_callB (cm_all rfl) rfl T.z_all (by decide +kernel) (ma_cons (me_new (mn_lc [("letter", 1)] rfl sc_is_name.nd (mi_str (me_var 0)) (blkOk_by (N := N_is_name) (sc := defScope s_is_name) (by decide +kernel)) (fun _ _ _ _ _ => mg_name (i := 1) sc_is_name.nd rfl (by first | exact Or.inl rfl | exact Or.inr rfl)) (fun _ _ _ _ _ => mts_nil) (fun _ _ _ _ _ => me_cmp om_in (me_var 1) (me_gstr rfl q_LETTERS )))) (ma_nil)))))
set_option maxHeartbeats 4000000 in
theorem ok__law_numbers {f : Addr} {fd : FuncData} (T : Txt0 K mg) (F : FnP K "_law_numbers" s__law_numbers f fd) (g : mg "_law_numbers" = some (.ref f)) : Dn P w K mg "_law_numbers" 1 ["_law_script", "_law_at"] f__law_numbers f fd := by
  refine ⟨g, F.kp, F.bindsN fun _ _ _ _ _ _ us hl => match us, hl with | [_, _], _ => rfl, fun base => fn_okD F sc__law_numbers fun cdv A outer s H E hr => ?_⟩
  have hu := hr.units
  exact ms_cons (ms_set (i := 2) sc__law_numbers.nd rfl (by first | exact Or.inl rfl | exact Or.inr rfl) (me_if (mt_cmp om_lt (me_var 1) (me_callB (cm_len) rfl T.z_len (by decide +kernel) (ma_cons (me_var 0) (ma_nil)))) (me_ix (me_var 0) (me_var 1)) (me_op om_add (me_op om_mul (me_int) (me_var 1)) (me_int)))) (ms_cons (ms_set (i := 3) sc__law_numbers.nd rfl (by first | exact Or.inl rfl | exact Or.inr rfl) (me_op om_mod (me_callTy (cm_int) rfl T.z_int (by decide +kernel) (ma_cons (me_callB (cm_abs) rfl T.z_abs (by decide +kernel) (ma_cons (me_var 2) (ma_nil))) (ma_nil))) (me_op om_pow (me_op om_pow (me_int) (me_int)) (me_int)))) (ms_cons (ms_set (i := 4) sc__law_numbers.nd rfl (by first | exact Or.inl rfl | exact Or.inr rfl) (me_op om_add (me_op om_add (me_op om_add (me_op om_mul (me_var 3) (me_int)) (me_op om_mul (me_int) (me_var 1))) (me_op om_mul (me_int) (me_callTy (cm_int) rfl T.z_int (by decide +kernel) (ma_cons (me_cmp om_lt (me_var 2) (me_int)) (ma_nil))))) (me_int))) (ms_one (ms_ret (me_cell (ma_cons (me_callB (cm_max rfl) rfl T.z_max (by decide +kernel) (ma_cons (me_int) (ma_cons (me_op om_sub (me_var 3) (me_op om_pow (me_int) (me_int))) (ma_nil)))) (ma_cons (me_op om_mod (me_callTy (cm_int) rfl T.z_int (by decide +kernel) (ma_cons (me_var 4) (ma_nil))) (me_int)) (ma_cons (me_int) (ma_nil)))))))))
set_option maxHeartbeats 4000000 in
theorem ok__law_cast {f : Addr} {fd : FuncData} (T : Txt0 K mg) (F : FnP K "_law_cast" s__law_cast f fd) (g : mg "_law_cast" = some (.ref f)) : Dn P w K mg "_law_cast" 1 ["_law_die", "_law_total"] f__law_cast f fd := by
  refine ⟨g, F.kp, F.bindsN fun _ _ _ _ _ _ us hl => match us, hl with | [_, _], _ => rfl, fun base => fn_okD F sc__law_cast fun cdv A outer s H E hr => ?_⟩
  have hu := hr.units
  exact ms_cons (ms_if (mt_cmp om_gt (me_ix (me_var 0) (me_int)) (me_int)) (ms_cons (ms_set (i := 4) sc__law_cast.nd rfl (by first | exact Or.inl rfl | exact Or.inr rfl) (me_op om_mod (me_callTy (cm_int) rfl T.z_int (by decide +kernel) (ma_cons (me_ix (me_var 0) (me_int)) (ma_nil))) (me_var 1))) (ms_cons (ms_put (me_op om_div (me_ix (me_var 0) (me_int)) (me_var 1)) (me_var 0) (me_int)) (ms_one (ms_ret (me_var 4))))) (ms_nil)) (ms_cons (ms_put (me_op om_add (me_ix (me_var 0) (me_int)) (me_int)) (me_var 0) (me_int)) (ms_cons (ms_set (i := 2) sc__law_cast.nd rfl (by first | exact Or.inl rfl | exact Or.inr rfl) (me_op om_mod (me_callTy (cm_int) rfl T.z_int (by decide +kernel) (ma_cons (me_op om_add (me_ix (me_var 0) (me_int)) (me_op om_mul (me_int) (me_ix (me_var 0) (me_int)))) (ma_nil))) (me_int))) (ms_cons (ms_set (i := 3) sc__law_cast.nd rfl (by first | exact Or.inl rfl | exact Or.inr rfl) (me_op om_add (me_op om_mul (me_op om_mod (me_callTy (cm_int) rfl T.z_int (by decide +kernel) (ma_cons (me_op om_mul (me_var 2) (me_var 2)) (ma_nil))) (me_int)) (me_var 2)) (me_op om_mul (me_int) (me_ix (me_var 0) (me_int))))) (ms_one (ms_ret (me_op om_mod (me_callTy (cm_int) rfl T.z_int (by decide +kernel) (ma_cons (me_op om_div (me_op om_mod (me_callTy (cm_int) rfl T.z_int (by decide +kernel) (ma_cons (me_op om_add (me_var 3) (me_ix (me_var 0) (me_int))) (ma_nil))) (me_int)) (me_int)) (ma_nil))) (me_var 1)))))))
set_option maxHeartbeats 4000000 in
theorem ok__law_is_number {f : Addr} {fd : FuncData} (T : Txt0 K mg) (F : FnP K "_law_is_number" s__law_is_number f fd) (g : mg "_law_is_number" = some (.ref f)) : Dn P w K mg "_law_is_number" 1 ["_law_value", "_law_total"] f__law_is_number f fd := by
  refine ⟨g, F.kp, F.bindsN fun _ _ _ _ _ _ us hl => match us, hl with | [_, _], _ => rfl, fun base => fn_okD F sc__law_is_number fun cdv A outer s H E hr => ?_⟩
  have hu := hr.units
  exact ms_one (ms_ret (me_and (me_callB (cm_isi) rfl T.z_isinstance (by decide +kernel) (ma_cons (me_var 0) (ma_cons (me_ty rfl T.z_int (by decide +kernel)) (ma_nil)))) (me_and (me_not (me_callB (cm_isi) rfl T.z_isinstance (by decide +kernel) (ma_cons (me_var 0) (ma_cons (me_ty rfl T.z_bool (by decide +kernel)) (ma_nil))))) (me_one (me_chain om_le om_lt (me_int) (me_var 0) (me_var 1))))))
set_option maxHeartbeats 4000000 in
theorem ok__law_is_word {f : Addr} {fd : FuncData} (T : Txt0 K mg) (F : FnP K "_law_is_word" s__law_is_word f fd) (g : mg "_law_is_word" = some (.ref f)) : Dn P w K mg "_law_is_word" 1 ["_law_value"] f__law_is_word f fd := by
  refine ⟨g, F.kp, F.bindsN fun _ _ _ _ _ _ us hl => match us, hl with | [_], _ => rfl, fun base => fn_okD F sc__law_is_word fun cdv A outer s H E hr => ?_⟩
  have hu := hr.units
  exact ms_cons (ms_if (mt_w (mw_or (mt_not (mt_val (me_callB (cm_isi) rfl T.z_isinstance (by decide +kernel) (ma_cons (me_var 0) (ma_cons (me_ty rfl T.z_str (by decide +kernel)) (ma_nil)))))) (mw_or1 (mt_not (mt_chain om_le om_le (me_int) (me_callB (cm_len) rfl T.z_len (by decide +kernel) (ma_cons (me_var 0) (ma_nil))) (me_int)))))) (ms_one (ms_ret (me_bl))) (ms_nil)) (ms_one (ms_ret (me_cmp (om_eq hu) (me_new (mn_lc [("_law_one", 1)] rfl sc__law_is_word.nd (mi_str (me_var 0)) (blkOk_by (N := N__law_is_word) (sc := defScope s__law_is_word) (by decide +kernel)) (fun _ _ _ _ _ => mg_name (i := 1) sc__law_is_word.nd rfl (by first | exact Or.inl rfl | exact Or.inr rfl)) (fun _ _ _ _ _ => mts_one (mt_not (mt_chain om_le om_le (me_str) (me_var 1) (me_str)))) (fun _ _ _ _ _ => me_var 1))) (me_lst (ma_nil)))))
set_option maxHeartbeats 4000000 in
theorem ok_is_below {f : Addr} {fd : FuncData} (T : Txt0 K mg) (F : FnP K "is_below" s_is_below f fd) (g : mg "is_below" = some (.ref f)) {a_is_integer : Addr} {e_is_integer : FuncData} (D_is_integer : Dn P w K mg "is_integer" 1 ["value"] f_is_integer a_is_integer e_is_integer) : Dn P w K mg "is_below" 2 ["value", "limit"] f_is_below f fd := by
  refine ⟨g, F.kp, F.bindsN fun _ _ _ _ _ _ us hl => match us, hl with | [_, _], _ => rfl, fun base => fn_okD F sc_is_below fun cdv A outer s H E hr => ?_⟩
  have hu := hr.units
  exact ms_one (ms_ret (me_and (me_call (D_is_integer.o base) (hr.mono (by decide)) rfl D_is_integer.g D_is_integer.kp D_is_integer.b (ma_cons (me_var 0) (ma_nil)) (ln_cons (ln_nil))) (me_one (me_chain om_le om_lt (me_int) (me_var 0) (me_var 1)))))
set_option maxHeartbeats 4000000 in
theorem ok__law_pick {f : Addr} {fd : FuncData} (T : Txt0 K mg) (F : FnP K "_law_pick" s__law_pick f fd) (g : mg "_law_pick" = some (.ref f)) {a__law_cast : Addr} {e__law_cast : FuncData} (D__law_cast : Dn P w K mg "_law_cast" 1 ["_law_die", "_law_total"] f__law_cast a__law_cast e__law_cast) : Dn P w K mg "_law_pick" 2 ["_law_die", "_law_items"] f__law_pick f fd := by
  refine ⟨g, F.kp, F.bindsN fun _ _ _ _ _ _ us hl => match us, hl with | [_, _], _ => rfl, fun base => fn_okD F sc__law_pick fun cdv A outer s H E hr => ?_⟩
  have hu := hr.units
  exact ms_one (ms_ret (me_ix (me_var 1) (me_call (D__law_cast.o base) (hr.mono (by decide)) rfl D__law_cast.g D__law_cast.kp D__law_cast.b (ma_cons (me_var 0) (ma_cons (me_callB (cm_len) rfl T.z_len (by decide +kernel) (ma_cons (me_var 1) (ma_nil))) (ma_nil))) (ln_cons (ln_cons (ln_nil))))))
set_option maxHeartbeats 4000000 in
theorem ok_is_limit {f : Addr} {fd : FuncData} (T : Txt0 K mg) (F : FnP K "is_limit" s_is_limit f fd) (g : mg "is_limit" = some (.ref f)) {a_is_below : Addr} {e_is_below : FuncData} (D_is_below : Dn P w K mg "is_below" 2 ["value", "limit"] f_is_below a_is_below e_is_below) : Dn P w K mg "is_limit" 3 ["value"] f_is_limit f fd := by
  obtain ⟨t_TOP, q_TOP⟩ := T.c_TOP
  refine ⟨g, F.kp, F.bindsN fun _ _ _ _ _ _ us hl => match us, hl with | [_], _ => rfl, fun base => fn_okD F sc_is_limit fun cdv A outer s H E hr => ?_⟩
  have hu := hr.units
  exact ms_one (ms_ret (me_or (me_cmp om_is (me_var 0) (me_non)) (me_one (me_call (D_is_below.o base) (hr.mono (by decide)) rfl D_is_below.g D_is_below.kp D_is_below.b (ma_cons (me_var 0) (ma_cons (me_gint rfl q_TOP ) (ma_nil))) (ln_cons (ln_cons (ln_nil)))))))
set_option maxHeartbeats 4000000 in
theorem ok__law_odd_one {f : Addr} {fd : FuncData} (T : Txt0 K mg) (F : FnP K "_law_odd_one" s__law_odd_one f fd) (g : mg "_law_odd_one" = some (.ref f)) {a__law_pick : Addr} {e__law_pick : FuncData} (D__law_pick : Dn P w K mg "_law_pick" 2 ["_law_die", "_law_items"] f__law_pick a__law_pick e__law_pick) : Dn P w K mg "_law_odd_one" 3 ["_law_die"] f__law_odd_one f fd := by
  refine ⟨g, F.kp, F.bindsN fun _ _ _ _ _ _ us hl => match us, hl with | [_], _ => rfl, fun base => fn_okD F sc__law_odd_one fun cdv A outer s H E hr => ?_⟩
  have hu := hr.units
  exact ms_cons (ms_set (i := 1) sc__law_odd_one.nd rfl (by first | exact Or.inl rfl | exact Or.inr rfl) (me_lst (ma_cons (me_non) (ma_cons (me_int) (ma_cons (me_int) (ma_cons (me_int) (ma_cons (me_int) (ma_cons (me_un um_neg (me_int)) (ma_cons (me_bl) (ma_cons (me_bl) (ma_cons (me_str) (ma_cons (me_str) (ma_cons (me_str) (ma_cons (me_str) (ma_cons (me_tup (ma_nil)) (ma_cons (me_tup (ma_cons (me_int) (ma_nil))) (ma_cons (me_tup (ma_cons (me_int) (ma_cons (me_int) (ma_nil)))) (ma_cons (me_tup (ma_cons (me_int) (ma_cons (me_int) (ma_nil)))) (ma_cons (me_lst (ma_cons (me_int) (ma_nil))) (ma_cons (me_dnew) (ma_cons (me_str) (ma_nil)))))))))))))))))))))) (ms_cons (ms_set (i := 1) sc__law_odd_one.nd rfl (by first | exact Or.inl rfl | exact Or.inr rfl) (me_op om_add (me_var 1) (me_lst (ma_cons (me_op om_pow (me_int) (me_int)) (ma_cons (me_tup (ma_cons (me_non) (ma_nil))) (ma_cons (me_tup (ma_cons (me_tup (ma_cons (me_int) (ma_cons (me_int) (ma_nil)))) (ma_nil))) (ma_cons (me_tup (ma_cons (me_tup (ma_cons (me_int) (ma_cons (me_int) (ma_nil)))) (ma_cons (me_tup (ma_cons (me_int) (ma_cons (me_int) (ma_nil)))) (ma_nil)))) (ma_cons (me_tup (ma_cons (me_str) (ma_nil))) (ma_cons (me_tup (ma_cons (me_str) (ma_cons (me_int) (ma_nil)))) (ma_cons (me_str) (ma_cons (me_str) (ma_cons (me_str) (ma_nil))))))))))))) (ms_one (ms_ret (me_call (D__law_pick.o base) (hr.mono (by decide)) rfl D__law_pick.g D__law_pick.kp D__law_pick.b (ma_cons (me_var 0) (ma_cons (me_var 1) (ma_nil))) (ln_cons (ln_cons (ln_nil)))))))
set_option maxHeartbeats 4000000 in
theorem ok__law_right {f : Addr} {fd : FuncData} (T : Txt0 K mg) (F : FnP K "_law_right" s__law_right f fd) (g : mg "_law_right" = some (.ref f)) {a_is_name : Addr} {e_is_name : FuncData} (D_is_name : Dn P w K mg "is_name" 1 ["value"] f_is_name a_is_name e_is_name) {a__law_cast : Addr} {e__law_cast : FuncData} (D__law_cast : Dn P w K mg "_law_cast" 1 ["_law_die", "_law_total"] f__law_cast a__law_cast e__law_cast) {a__law_is_number : Addr} {e__law_is_number : FuncData} (D__law_is_number : Dn P w K mg "_law_is_number" 1 ["_law_value", "_law_total"] f__law_is_number a__law_is_number e__law_is_number) {a__law_is_word : Addr} {e__law_is_word : FuncData} (D__law_is_word : Dn P w K mg "_law_is_word" 1 ["_law_value"] f__law_is_word a__law_is_word e__law_is_word) {a__law_pick : Addr} {e__law_pick : FuncData} (D__law_pick : Dn P w K mg "_law_pick" 2 ["_law_die", "_law_items"] f__law_pick a__law_pick e__law_pick) {a_is_limit : Addr} {e_is_limit : FuncData} (D_is_limit : Dn P w K mg "is_limit" 3 ["value"] f_is_limit a_is_limit e_is_limit) {a__law_odd_one : Addr} {e__law_odd_one : FuncData} (D__law_odd_one : Dn P w K mg "_law_odd_one" 3 ["_law_die"] f__law_odd_one a__law_odd_one e__law_odd_one) : Dn P w K mg "_law_right" 4 ["_law_die"] f__law_right f fd := by
  refine ⟨g, F.kp, F.bindsN fun _ _ _ _ _ _ us hl => match us, hl with | [_], _ => rfl, fun base => fn_okD F sc__law_right fun cdv A outer s H E hr => ?_⟩
  have hu := hr.units
  exact ms_cons (ms_set (i := 1) sc__law_right.nd rfl (by first | exact Or.inl rfl | exact Or.inr rfl) (me_str)) (ms_cons (ms_set (i := 2) sc__law_right.nd rfl (by first | exact Or.inl rfl | exact Or.inr rfl) (me_join (me_str) (me_new (mn_lc [("_law_turn", 4)] rfl sc__law_right.nd (mi_range1 rfl T.z_range (ma_cons (me_call (D__law_cast.o base) (hr.mono (by decide)) rfl D__law_cast.g D__law_cast.kp D__law_cast.b (ma_cons (me_var 0) (ma_cons (me_int) (ma_nil))) (ln_cons (ln_cons (ln_nil)))) (ma_nil)) (ln_cons (ln_nil))) (blkOk_by (N := N__law_right) (sc := defScope s__law_right) (by decide +kernel)) (fun _ _ _ _ _ => mg_name (i := 4) sc__law_right.nd rfl (by first | exact Or.inl rfl | exact Or.inr rfl)) (fun _ _ _ _ _ => mts_nil) (fun _ _ _ _ _ => me_call (D__law_pick.o base) (hr.mono (by decide)) rfl D__law_pick.g D__law_pick.kp D__law_pick.b (ma_cons (me_var 0) (ma_cons (me_var 1) (ma_nil))) (ln_cons (ln_cons (ln_nil)))))))) (ms_cons (ms_set (i := 3) sc__law_right.nd rfl (by first | exact Or.inl rfl | exact Or.inr rfl) (me_int)) (ms_cons (ms_for PassesOwn.never rfl (mi_range1 rfl T.z_range (ma_cons (me_op om_add (me_int) (me_call (D__law_cast.o base) (hr.mono (by decide)) rfl D__law_cast.g D__law_cast.kp D__law_cast.b (ma_cons (me_var 0) (ma_cons (me_int) (ma_nil))) (ln_cons (ln_cons (ln_nil))))) (ma_nil)) (ln_cons (ln_nil))) (mg_name (i := 4) sc__law_right.nd rfl (by first | exact Or.inl rfl | exact Or.inr rfl)) (ms_one (ms_set (i := 3) sc__law_right.nd rfl (by first | exact Or.inl rfl | exact Or.inr rfl) (me_op om_add (me_op om_mul (me_var 3) (me_int)) (me_call (D__law_cast.o base) (hr.mono (by decide)) rfl D__law_cast.g D__law_cast.kp D__law_cast.b (ma_cons (me_var 0) (ma_cons (me_int) (ma_nil))) (ln_cons (ln_cons (ln_nil)))))))) (ms_cons (ms_set (i := 5) sc__law_right.nd rfl (by first | exact Or.inl rfl | exact Or.inr rfl) (me_lst (ma_cons (me_var 2) (ma_cons (me_op om_add (me_var 2) (me_call (D__law_pick.o base) (hr.mono (by decide)) rfl D__law_pick.g D__law_pick.kp D__law_pick.b (ma_cons (me_var 0) (ma_cons (me_lst (ma_cons (me_str) (ma_cons (me_str) (ma_cons (me_str) (ma_cons (me_str) (ma_cons (me_str) (ma_nil))))))) (ma_nil))) (ln_cons (ln_cons (ln_nil))))) (ma_cons (me_upper (me_var 2)) (ma_cons (me_call (D__law_odd_one.o base) (hr.mono (by decide)) rfl D__law_odd_one.g D__law_odd_one.kp D__law_odd_one.b (ma_cons (me_var 0) (ma_nil)) (ln_cons (ln_nil))) (ma_cons (me_var 3) (ma_cons (me_un um_neg (me_var 3)) (ma_nil))))))))) (ms_cons (ms_set (i := 5) sc__law_right.nd rfl (by first | exact Or.inl rfl | exact Or.inr rfl) (me_op om_add (me_var 5) (me_lst (ma_cons (me_op om_sub (me_var 3) (me_op om_pow (me_int) (me_int))) (ma_cons (me_callTy (cm_str) rfl T.z_str (by decide +kernel) (ma_cons (me_var 3) (ma_nil))) (ma_cons (me_tup (ma_cons (me_var 3) (ma_nil))) (ma_cons (me_non) (ma_cons (me_bl) (ma_cons (me_bl) (ma_cons (me_int) (ma_cons (me_un um_neg (me_int)) (ma_cons (me_op om_sub (me_op om_pow (me_int) (me_int)) (me_int)) (ma_cons (me_lst (ma_cons (me_var 2) (ma_nil))) (ma_nil)))))))))))))) (ms_cons (ms_for PassesOwn.never rfl (mi_list (me_var 5)) (mg_name (i := 6) sc__law_right.nd rfl (by first | exact Or.inl rfl | exact Or.inr rfl)) (ms_cons (ms_if (mt_cmp (om_ne hu) (me_callB (cm_repr) rfl T.z_repr (by decide +kernel) (ma_cons (me_call (D_is_name.o base) (hr.mono (by decide)) rfl D_is_name.g D_is_name.kp D_is_name.b (ma_cons (me_var 6) (ma_nil)) (ln_cons (ln_nil))) (ma_nil))) (me_callB (cm_repr) rfl T.z_repr (by decide +kernel) (ma_cons (me_call (D__law_is_word.o base) (hr.mono (by decide)) rfl D__law_is_word.g D__law_is_word.kp D__law_is_word.b (ma_cons (me_var 6) (ma_nil)) (ln_cons (ln_nil))) (ma_nil)))) (ms_one (ms_ret (me_bl))) (ms_nil)) (ms_one (ms_if (mt_cmp (om_ne hu) (me_callB (cm_repr) rfl T.z_repr (by decide +kernel) (ma_cons (me_call (D_is_limit.o base) (hr.mono (by decide)) rfl D_is_limit.g D_is_limit.kp D_is_limit.b (ma_cons (me_var 6) (ma_nil)) (ln_cons (ln_nil))) (ma_nil))) (me_callB (cm_repr) rfl T.z_repr (by decide +kernel) (ma_cons (me_or (me_cmp om_is (me_var 6) (me_non)) (me_one (me_call (D__law_is_number.o base) (hr.mono (by decide)) rfl D__law_is_number.g D__law_is_number.kp D__law_is_number.b (ma_cons (me_var 6) (ma_cons (me_op om_pow (me_int) (me_int)) (ma_nil))) (ln_cons (ln_cons (ln_nil)))))) (ma_nil)))) (ms_one (ms_ret (me_bl))) (ms_nil))))) (ms_one (ms_ret (me_bl)))))))))
set_option maxHeartbeats 4000000 in
theorem ok_law {f : Addr} {fd : FuncData} (T : Txt0 K mg) (F : FnP K "law" s_law f fd) (g : mg "law" = some (.ref f)) {a_is_name : Addr} {e_is_name : FuncData} (D_is_name : Dn P w K mg "is_name" 1 ["value"] f_is_name a_is_name e_is_name) {a__law_numbers : Addr} {e__law_numbers : FuncData} (D__law_numbers : Dn P w K mg "_law_numbers" 1 ["_law_script", "_law_at"] f__law_numbers a__law_numbers e__law_numbers) {a_is_limit : Addr} {e_is_limit : FuncData} (D_is_limit : Dn P w K mg "is_limit" 3 ["value"] f_is_limit a_is_limit e_is_limit) {a__law_right : Addr} {e__law_right : FuncData} (D__law_right : Dn P w K mg "_law_right" 4 ["_law_die"] f__law_right a__law_right e__law_right) : Dn P w K mg "law" 5 ["_law_script"] f_law f fd := by
  refine ⟨g, F.kp, F.bindsN fun _ _ _ _ _ _ us hl => match us, hl with | [_], _ => rfl, fun base => fn_okD F sc_law fun cdv A outer s H E hr => ?_⟩
  have hu := hr.units
  exact ms_cons (ms_for PassesOwn.never rfl (mi_range1 rfl T.z_range (ma_cons (me_callB (cm_max rfl) rfl T.z_max (by decide +kernel) (ma_cons (me_int) (ma_cons (me_callB (cm_min rfl) rfl T.z_min (by decide +kernel) (ma_cons (me_int) (ma_cons (me_callB (cm_len) rfl T.z_len (by decide +kernel) (ma_cons (me_var 0) (ma_nil))) (ma_nil)))) (ma_nil)))) (ma_nil)) (ln_cons (ln_nil))) (mg_name (i := 1) sc_law.nd rfl (by first | exact Or.inl rfl | exact Or.inr rfl)) (ms_cons (ms_set (i := 3) sc_law.nd rfl (by first | exact Or.inl rfl | exact Or.inr rfl) (me_call (D__law_numbers.o base) (hr.mono (by decide)) rfl D__law_numbers.g D__law_numbers.kp D__law_numbers.b (ma_cons (me_var 0) (ma_cons (me_var 1) (ma_nil))) (ln_cons (ln_cons (ln_nil))))) (ms_one (ms_for PassesOwn.never rfl (mi_range1 rfl T.z_range (ma_cons (me_int) (ma_nil)) (ln_cons (ln_nil))) (mg_name (i := 4) sc_law.nd rfl (by first | exact Or.inl rfl | exact Or.inr rfl)) (ms_one (ms_if (mt_not (mt_val (me_call (D__law_right.o base) (hr.mono (by decide)) rfl D__law_right.g D__law_right.kp D__law_right.b (ma_cons (me_var 3) (ma_nil)) (ln_cons (ln_nil))))) (ms_one (ms_ret (me_bl))) (ms_nil))))))) (ms_cons (ms_setLcE (i := 2) (k := eNew) tNew_fro [("_law_word", 5)] rfl sc_law.nd rfl rfl (sw_true rfl rfl rfl (by decide +kernel)) (mi_tup (me_tup (ma_cons (me_str) (ma_cons (me_str) (ma_cons (me_str) (ma_cons (me_str) (ma_cons (me_str) (ma_nil)))))))) (blkOk_by (N := N_law) (sc := defScope s_law) (by decide +kernel)) (fun _ _ _ _ _ => mg_name (i := 5) sc_law.nd rfl (by first | exact Or.inl rfl | exact Or.inr rfl)) (fun _ _ _ _ _ => mts_nil) (fun _ _ _ _ _ => me_call (D_is_name.o base) (hr.mono (by decide)) rfl D_is_name.g D_is_name.kp D_is_name.b (ma_cons (me_var 5) (ma_nil)) (ln_cons (ln_nil)))) (ms_one (ms_ret (me_and (me_cmp (om_eq hu) (me_var 2) (me_lst (ma_cons (me_bl) (ma_cons (me_bl) (ma_cons (me_bl) (ma_cons (me_bl) (ma_cons (me_bl) (ma_nil)))))))) (me_one (me_cmp (om_eq hu) (me_lst (ma_cons (me_call (D_is_limit.o base) (hr.mono (by decide)) rfl D_is_limit.g D_is_limit.kp D_is_limit.b (ma_cons (me_non) (ma_nil)) (ln_cons (ln_nil))) (ma_cons (me_call (D_is_limit.o base) (hr.mono (by decide)) rfl D_is_limit.g D_is_limit.kp D_is_limit.b (ma_cons (me_bl) (ma_nil)) (ln_cons (ln_nil))) (ma_nil)))) (me_lst (ma_cons (me_bl) (ma_cons (me_bl) (ma_nil))))))))))
end

end K01

namespace K01
open PySem PySem.Spec PyProof.Rows L2 Dz
local macro_rules | `(tactic| walk_at "sym") => `(tactic| simp [Dz.startE, Dz.sRet, Dz.sIf, Dz.sSeq, Dz.sNext, Dz.sSet, Dz.sPut, Dz.eAnd, Dz.eOr, Dz.eNot, Dz.bNot, Dz.bAnd, Dz.bOr, Dz.bYes, Dz.eIf, Dz.eTest, Dz.eCall, Dz.eCB, Dz.aCons, Dz.aNil, Dz.eVar, Dz.eC, Dz.eOp, Dz.eUn, Dz.eIx, Dz.eTup, Dz.eLst, Dz.eCell, Dz.dTup, Dz.dLst, Dz.dCell, Dz.asDs, Dz.asD, Dz.bnd_ret, Dz.bIsi, Dz.opt, Dz.tyN, Dz.kit_ii, Dz.kit_ib, Dz.kit_is, Dz.kit_it, Dz.kit_bi, Dz.kit_bb, Dz.kit_bs, Dz.kit_bt, Dz.kit_si, Dz.kit_sb, Dz.kit_ss, Dz.kit_st, Dz.kit_ni, Dz.kit_ns, Dz.kit_nt, Dz.kit_ti, Dz.kit_ts, Dz.kit_tt, Dz.kit_li, Dz.kit_ls, Dz.kit_lt, Dz.kit_di, Dz.kit_ds, Dz.kit_dt, Dz.asB, Dz.eChain, Dz.opNeg, Dz.opAdd, Dz.opSub, Dz.opMul, Dz.opMod, Dz.opDiv, Dz.opPow, Dz.g2I, Dz.yes2, Dz.cLt, Dz.cLe, Dz.cGt, Dz.cGe, Dz.cmpI, Dz.cIs, Dz.cIsNot, Dz.isNon, Dz.bLen, Dz.bAbs, Dz.bMax, Dz.bMin, Dz.tInt, Dz.gIx, Dz.iRg, Dz.itR, Dz.iOf, Dz.itL, Dz.itT, Dz.itS, Dz.sFor, Dz.eNew, Dz.sNew, Dz.lcF, Dz.wipeE])
local macro_rules | `(tactic| walk_at "stp") => `(tactic| simp only [Dz.w_var, Dz.w_c, Dz.w_op, Dz.w_ix, Dz.w_un, Dz.w_test, Dz.w_asB, Dz.w_not, Dz.w_and, Dz.w_or, Dz.w_if, Dz.w_sif, Dz.w_seq, Dz.after_nx, Dz.after_rt, Dz.w_next, Dz.w_ret, Dz.w_set, Dz.w_drop, Dz.w_put, Dz.w_nil, Dz.w_cons, Dz.w_cb, Dz.w_call, Dz.w_tup, Dz.w_lst, Dz.w_cell, Dz.w_for, Dz.w_of, Dz.w_rg, Dz.w_new, Dz.w_newC, Dz.w_lc, Dz.w_join, Dz.w_isS, Dz.w_chain, Dz.w_eand, Dz.w_eor, Dz.w_enot, Dz.w_ltS, Dz.w_leS, Dz.w_is, Dz.w_isnot, Dz.w_inS, Dz.w_rpr, Dz.w_itS, Dz.w_itL, Dz.w_itLs, Dz.w_itT, Dz.w_add, Dz.w_sub, Dz.w_neg, Dz.w_lt, Dz.w_le, Dz.w_gt, Dz.w_ge, Dz.w_int, Dz.w_intb, Dz.w_abs, Dz.w_max, Dz.w_min, Dz.w_lenL, Dz.w_lenT, Dz.w_lenR, Dz.wp_pur, Dz.startE, Dz.w_dtup, Dz.w_dlst, Dz.asDs_nil, Dz.asDs_cons, Dz.w_some, Dz.w_kTup, Dz.w_kLst, Dz.w_addL, Dz.w_addT, List.map_cons, List.map_nil, List.length_cons, List.length_nil, List.replicate, List.cons_append, List.nil_append, List.append_nil, List.getElem?_cons_zero, List.getElem?_cons_succ, List.set_cons_zero, List.set_cons_succ, Nat.reduceAdd, Nat.reduceSub, Nat.zero_add, Nat.sub_zero, Bool.not_true, Bool.not_false, if_true, if_false, Bool.false_eq_true, reduceIte, decide_eq_true_eq, Option.map_some, Nat.reduceLeDiff])
def isInt : D → Bool
  | .int i => decide (-c_TOP < i) && decide (i < c_TOP)
  | _ => false
theorem is_integer_eq (x : D) (h : tyN x ≠ none) : f_is_integer [.d x] = pur (.d (.bl (isInt x))) := by
  apply fnM_rt
  unfold b_is_integer
  cases x with
  | ty => exact absurd rfl h
  | int i =>
    walk_at "sym"
    by_cases h1 : -c_TOP < i <;> simp [h1, bnd_ret, isInt]
  | _ => walk_at "sym"; rfl
def inRg (x : D) (t : Int) : Bool := match x with
  | .int i => decide (0 ≤ i) && decide (i < t)
  | _ => false
def isLim (x : D) : Bool := isNon x || (isInt x && inRg x c_TOP)
theorem is_below_eq (x : D) (t : Int) (h : tyN x ≠ none) : f_is_below [.d x, .d (.int t)] = pur (.d (.bl (isInt x && inRg x t))) := by
  apply fnM_rt
  unfold b_is_below
  walk_at "sym"
  rw [is_integer_eq x h, bnd_ret]
  cases x with
  | int i =>
    by_cases h1 : isInt (.int i) = true
    · by_cases h2 : 0 ≤ i <;> simp [h1, h2, bnd_ret, inRg]
    · simp [h1, bnd_ret, inRg]
  | _ => simp [isInt, bnd_ret, inRg]
theorem is_limit_eq (x : D) (h : tyN x ≠ none) : f_is_limit [.d x] = pur (.d (.bl (isLim x))) := by
  apply fnM_rt
  unfold b_is_limit
  walk_at "sym"
  rw [is_below_eq x _ h]
  cases x <;> simp [isNon, isLim, bnd_ret]
theorem is_number_eq (x : D) (t : Int) (h : tyN x ≠ none) : f__law_is_number [.d x, .d (.int t)] = pur (.d (.bl (inRg x t))) := by
  apply fnM_rt
  unfold b__law_is_number
  cases x with
  | ty => exact absurd rfl h
  | int i =>
    walk_at "sym"
    by_cases h1 : 0 ≤ i <;> simp [h1, bnd_ret, inRg]
  | _ => walk_at "sym"; rfl
theorem cast_wp {n : Nat} {S : Sto} {t : Int} (h : Die n S) (h0 : 0 < t) (h1 : t < 1073741824) : wp (f__law_cast [.c n, .d (.int t)]) S fun x S' => ∃ r, x = .d (.int r) ∧ 0 ≤ r ∧ r < t ∧ Drw n S S' := by
  obtain ⟨a, b, c, h⟩ := h
  have hl : n < S.length := (List.getElem?_eq_some_iff.mp h).1
  apply wp_fn
  unfold b__law_cast
  walk_at "stp"
  simp only [w_die0 h]
  walk_at "stp"
  split
  · simp only [w_die0 h, w_int, w_mod h0, w_div ⟨h0, h1⟩, w_put0 h]
    refine ⟨_, rfl, _, rfl, Int.emod_nonneg _ (by omega), Int.emod_lt_of_pos _ h0, ?_⟩
    have d : Drw n S (S.set n (.lst [.int (a / t), .int b, .int c])) := ⟨_, _, _, rfl⟩
    rw [d.take]
    exact d
  · simp only [w_die2 h, w_add, w_put2 h]
    have h2 : (S.set n (.lst [.int a, .int b, .int (c + 1)]))[n]? = some (.lst [.int a, .int b, .int (c + 1)]) := List.getElem?_set_self hl
    have d : Drw n S (S.set n (.lst [.int a, .int b, .int (c + 1)])) := ⟨_, _, _, rfl⟩
    rw [w_die1 h2, w_die2 h2, w_mul_l (by decide), w_add, w_int, w_mod (by decide)]
    generalize hx : (b + 776531491 * (c + 1)) % 2305843009213693907 = x
    have hx0 : 0 ≤ x := by rw [← hx]; exact Int.emod_nonneg _ (by decide)
    have hx1 : x < 2305843009213693907 := by rw [← hx]; exact Int.emod_lt_of_pos _ (by decide)
    rw [w_mul_l ⟨by omega, by omega⟩, w_int, w_mod (by decide)]
    generalize hy : x * x % 1152921504606846619 = y
    have hy0 : 0 ≤ y := by rw [← hy]; exact Int.emod_nonneg _ (by decide)
    have hy1 : y < 1152921504606846619 := by rw [← hy]; exact Int.emod_lt_of_pos _ (by decide)
    rw [w_mul_l ⟨by omega, by omega⟩, w_die2 h2, w_mul_l (by decide), w_add, w_die1 h2, w_add, w_int, w_mod (by decide), w_div (by decide), w_int, w_mod h0]
    refine ⟨_, rfl, _, rfl, Int.emod_nonneg _ (by omega), Int.emod_lt_of_pos _ h0, ?_⟩
    rw [d.take]
    exact d
/-- one of the items -/
def itemsOf : D → List D
  | .lst ds => ds
  | .tup ds => ds
  | .str z => Dz.signs z
  | _ => []
theorem ixN_nat {n : Nat} {i : Int} (h0 : 0 ≤ i) (h1 : i < n) : ixN n i = some i.toNat := by
  unfold ixN
  rw [if_pos h0, if_pos (by omega)]
theorem atI_nn {α : Type} {xs : List α} {i : Int} (h0 : 0 ≤ i) (h1 : i < xs.length) : atI xs i = xs[i.toNat]? := by
  unfold atI
  rw [ixN_nat h0 h1]
  rfl
theorem ix_wp {it : D} {r : Int} {S : Sto} (hk : ∃ zs, it = .lst zs ∨ it = .tup zs ∨ ∃ z : Str, it = .str z ∧ z.length ≤ 1000) (h0 : 0 ≤ r) (h1 : r < (itemsOf it).length) : wp (gIx (.d it) (.d (.int r))) S fun x S' => ∃ y, x = .d y ∧ y ∈ itemsOf it ∧ S' = S := by
  obtain ⟨zs, rfl | rfl | ⟨z, rfl, hz⟩⟩ := hk
  · have hr : r.toNat < zs.length := by have : (itemsOf (.lst zs)).length = zs.length := rfl; omega
    refine wp_opt (a := zs[r.toNat]) ?_ (wp_pur.mpr ⟨_, rfl, List.getElem_mem hr, rfl⟩)
    rw [atI_nn h0 (show r < (zs.length : Int) from h1), List.getElem?_eq_getElem hr]
  · have hr : r.toNat < zs.length := by have : (itemsOf (.tup zs)).length = zs.length := rfl; omega
    refine wp_opt (a := zs[r.toNat]) ?_ (wp_pur.mpr ⟨_, rfl, List.getElem_mem hr, rfl⟩)
    rw [atI_nn h0 (show r < (zs.length : Int) from h1), List.getElem?_eq_getElem hr]
  · have hl : (itemsOf (.str z)).length = z.cps.toList.length := by show (Dz.signs z).length = _; unfold Dz.signs; rw [List.length_map]
    have hr : r.toNat < z.cps.toList.length := by omega
    show wp (if z.length ≤ 100000 then _ else _) S _
    rw [if_pos (by omega)]
    refine wp_opt (a := z.cps.toList[r.toNat]) ?_ (wp_pur.mpr ⟨_, rfl, ?_, rfl⟩)
    · rw [atI_nn h0 (by omega), List.getElem?_eq_getElem hr]
    · show _ ∈ Dz.signs z
      unfold Dz.signs
      exact List.mem_map.mpr ⟨_, List.getElem_mem hr, rfl⟩
theorem len_wp {it : D} {S : Sto} {Q : Vl → Sto → Prop} (hk : ∃ zs, it = .lst zs ∨ it = .tup zs ∨ ∃ z : Str, it = .str z ∧ z.length ≤ 1000) (h : Q (.d (.int (itemsOf it).length)) S) : wp (bLen [.d it]) S Q := by
  obtain ⟨zs, rfl | rfl | ⟨z, rfl, hz⟩⟩ := hk
  · exact wp_pur.mpr h
  · exact wp_pur.mpr h
  · have hl : (itemsOf (.str z)).length = z.length := by show (Dz.signs z).length = _; unfold Dz.signs; rw [List.length_map, Array.length_toList]; rfl
    rw [hl] at h
    exact (w_lenS (by omega)).mpr h
theorem pick_wp {n : Nat} {S : Sto} {it : D} (h : Die n S) (hk : ∃ zs, it = .lst zs ∨ it = .tup zs ∨ ∃ z : Str, it = .str z ∧ z.length ≤ 1000) (h0 : 0 < (itemsOf it).length) (h1 : (itemsOf it).length < 1000000) : wp (f__law_pick [.c n, .d it]) S fun x S' => ∃ y, x = .d y ∧ y ∈ itemsOf it ∧ Drw n S S' := by
  apply wp_fn
  unfold b__law_pick
  walk_at "stp"
  refine len_wp hk ?_
  refine wp_mono (cast_wp h (by omega) (by omega)) ?_
  rintro _ S1 ⟨r, rfl, r0, r1, d⟩
  refine wp_mono (ix_wp hk r0 r1) ?_
  rintro _ S2 ⟨y, rfl, hy, rfl⟩
  refine ⟨y, rfl, y, rfl, hy, ?_⟩
  rw [d.take]
  exact d
theorem numbers_wp {ns : List Int} {at_ : Int} {S : Sto} (h0 : 0 ≤ at_) (h1 : at_ < 100000) : wp (f__law_numbers [.d (.scr ns), .d (.int at_)]) S fun x S' => x = .c S.length ∧ ∃ a b c, S' = S ++ [.lst [.int a, .int b, .int c]] := by
  apply wp_fnC
  unfold b__law_numbers
  walk_at "stp"
  split
  · rename_i h
    have hr : at_.toNat < ns.length := by omega
    refine wp_opt (a := ns[at_.toNat]) (by rw [atI_nn h0 h, List.getElem?_eq_getElem hr]) ?_
    rw [wp_pur]
    rw [w_abs, w_int, w_pow (by decide +kernel), w_pow (by decide +kernel), w_mod (by decide +kernel), w_mul_r (by decide), w_mul_l (by decide), w_add, w_lt, w_intb, w_mul_l (by decide), w_add, w_add, w_pow (by decide +kernel), w_sub, w_max, w_int, w_mod (by decide)]
    exact ⟨_, _, rfl, S.length, _, rfl, Nat.le_refl _, List.getElem?_concat_length, trivial, _, _, _, by rw [List.take_left]⟩
  · rw [w_mul_l (by decide), w_add]
    rw [w_abs, w_int, w_pow (by decide +kernel), w_pow (by decide +kernel), w_mod (by decide +kernel), w_mul_r (by decide), w_mul_l (by decide), w_add, w_lt, w_intb, w_mul_l (by decide), w_add, w_add, w_pow (by decide +kernel), w_sub, w_max, w_int, w_mod (by decide)]
    exact ⟨_, _, rfl, S.length, _, rfl, Nat.le_refl _, List.getElem?_concat_length, trivial, _, _, _, by rw [List.take_left]⟩
/-! the words -/
def Good (x : D) : Prop := match x with
  | .str z => z.length ≤ 1000 ∧ ∀ c ∈ z.cps.toList, c < 128
  | .ty _ => False
  | _ => True
theorem Good.ty {x : D} (h : Good x) : tyN x ≠ none := by
  intro e
  cases x <;> first | (cases e; done) | exact h
def isNm : D → Bool
  | .str z => decide (0 < z.length ∧ z.length ≤ 8) && z.cps.toList.all fun c => decide (97 ≤ c ∧ c ≤ 122)
  | _ => false
theorem letters_list : c_LETTERS.cps.toList = List.range' 97 26 := by decide +kernel
theorem mem_letters (c : Nat) : decide (c ∈ c_LETTERS.cps.toList) = decide (97 ≤ c ∧ c ≤ 122) := by
  rw [letters_list]
  apply decide_eq_decide.mpr
  rw [List.mem_range'_1]
  omega
theorem isNm_str (z : Str) : isNm (.str z) = (decide (0 < z.length ∧ z.length ≤ 8) && z.cps.toList.all fun c => decide (97 ≤ c ∧ c ≤ 122)) := rfl
theorem name_eq (x : D) (h : Good x) : f_is_name [.d x] = pur (.d (.bl (isNm x))) := by
  cases x with
  | ty => exact h.elim
  | str z =>
    obtain ⟨hl, hc⟩ := h
    apply fn_pure
    intro S
    unfold b_is_name
    walk_at "stp"
    rw [w_isi (x := .str z) rfl kit_ss]
    walk_at "stp"
    rw [w_lenS (by omega)]
    walk_at "stp"
    have hsl : (Dz.signs z).length = z.length := by unfold Dz.signs; rw [List.length_map, Array.length_toList]; rfl
    by_cases h1 : 0 < z.length
    · rw [if_pos (by omega)]
      by_cases h2 : z.length ≤ 8
      · rw [if_neg (by simp [c_MAX_LETTERS]; omega), if_pos (by omega)]
        have e : lcL (Tgt.one 1) bYes (eOp cIn (eVar 1) (eC (D.str c_LETTERS))) (wipeE [some (Vl.d (D.str z)), none] [1]) (Dz.signs z) = pur ((z.cps.toList.filter fun _ => true).map fun c => .bl (decide (97 ≤ c ∧ c ≤ 122))) :=
          lcL_map (ρ1 := fun c => [some (.d (.str z)), some (.d (.str ⟨#[c]⟩))]) (b := fun _ => true) z.cps.toList fun c _ => ⟨rfl, rfl, fun _ => pur_wp fun S Q q => by
            walk_at "stp"
            rw [mem_letters]
            exact q⟩
        refine wp_of e ?_
        rw [w_all (boolsOf_map _ _), isNm_str, decide_eq_true (show 0 < z.length ∧ z.length ≤ 8 from ⟨h1, h2⟩)]
        refine ⟨?_, rfl⟩
        simp [List.all_map, Function.comp_def]
      · rw [if_pos (by simp [c_MAX_LETTERS]; omega), isNm_str, decide_eq_false (by omega)]
        exact ⟨rfl, trivial⟩
    · rw [if_neg (by omega), isNm_str, decide_eq_false (by omega)]
      exact ⟨rfl, trivial⟩
  | _ => apply fnM_rt; unfold b_is_name; walk_at "sym"; rfl
theorem a_list : ("a" : Str).cps.toList = [97] := by decide +kernel
theorem z_list : ("z" : Str).cps.toList = [122] := by decide +kernel
theorem lt_one (a b : Nat) : decide ([a] < [b]) = decide (a < b) := by
  apply decide_eq_decide.mpr
  constructor
  · intro h
    cases h with
    | rel h => exact h
    | cons h => cases h
  · intro h
    exact List.Lex.rel h
theorem pyOfs_signs : ∀ l : List Nat, pyOfs (l.map fun c => D.str ⟨#[c]⟩) = some (l.map fun c => PyData.str ⟨#[c]⟩)
  | [] => rfl
  | c :: l => by
    rw [List.map_cons]
    unfold pyOfs
    rw [pyOfs_signs l]
    rfl
theorem shaped_signs (l : List Nat) (h : ∀ c ∈ l, c < 128) : SeqAt.shaped (.list (l.map fun c => PyData.str ⟨#[c]⟩)) = true := by
  have h1 : PyData.canLayAll0 (l.map fun c => PyData.str ⟨#[c]⟩) = true := by
    induction l with
    | nil => rfl
    | cons c l ih =>
      rw [List.map_cons]
      unfold PyData.canLayAll0
      rw [ih fun d hd => h d (List.mem_cons_of_mem _ hd), Bool.and_true]
      unfold PyData.canLay0
      exact strOk_ascii fun d hd => by
        have : d = c := by simpa using hd
        rw [this]
        exact h c List.mem_cons_self
  have h2 : PyData.depthAll (l.map fun c => PyData.str ⟨#[c]⟩) = 0 := by
    clear h h1
    induction l with
    | nil => rfl
    | cons c l ih =>
      rw [List.map_cons]
      unfold PyData.depthAll
      rw [ih]
      rfl
  unfold SeqAt.shaped PyData.canLay0 PyData.depth
  rw [h1, h2]
  rfl
theorem eqD_signs (l : List Nat) (h : ∀ c ∈ l, c < 128) : eqD (.lst (l.map fun c => D.str ⟨#[c]⟩)) (.lst []) = some l.isEmpty := by
  unfold eqD
  have e1 : pyOf (.lst (l.map fun c => D.str ⟨#[c]⟩)) = some (.list (l.map fun c => PyData.str ⟨#[c]⟩)) := by
    unfold pyOf
    rw [pyOfs_signs]
  rw [e1, show pyOf (.lst []) = some (.list []) from rfl]
  simp only [shaped_signs l h, show SeqAt.shaped (.list []) = true from rfl, Bool.and_self, if_true]
  cases l with
  | nil => rfl
  | cons => rfl
theorem word_eq (x : D) (h : Good x) : f__law_is_word [.d x] = pur (.d (.bl (isNm x))) := by
  cases x with
  | ty => exact h.elim
  | str z =>
    obtain ⟨hl, hc⟩ := h
    apply fn_pure
    intro S
    unfold b__law_is_word
    walk_at "stp"
    rw [w_isi (x := .str z) rfl kit_ss]
    walk_at "stp"
    rw [w_lenS (by omega)]
    walk_at "stp"
    have hsl : (Dz.signs z).length = z.length := by unfold Dz.signs; rw [List.length_map, Array.length_toList]; rfl
    by_cases h1 : 0 < z.length
    · rw [if_pos (by omega)]
      by_cases h2 : z.length ≤ 8
      · rw [if_neg (by simp [c_MAX_LETTERS]; omega), if_pos (by omega)]
        have e : lcL (Tgt.one 1) (bNot (eTest (eChain cLe cLe (eC (D.str (Str.ofString "a"))) (eVar 1) (eC (D.str (Str.ofString "z")))))) (eVar 1) (wipeE [some (Vl.d (D.str z)), none] [1]) (Dz.signs z)
            = pur ((z.cps.toList.filter fun c => !decide (97 ≤ c ∧ c ≤ 122)).map fun c => .str ⟨#[c]⟩) :=
          lcL_map (ρ1 := fun c => [some (.d (.str z)), some (.d (.str ⟨#[c]⟩))]) z.cps.toList fun c _ => ⟨rfl, pur_wp fun S Q q => by
            walk_at "stp"
            rw [a_list, z_list, lt_one, lt_one]
            by_cases q1 : 97 ≤ c
            · rw [if_pos (by simp; omega)]
              rw [show (!!decide (122 < c)) = !decide (97 ≤ c ∧ c ≤ 122) by by_cases q2 : 122 < c <;> simp [q2, q1] <;> omega]
              exact q
            · rw [if_neg (by simp; omega)]
              rw [show true = !decide (97 ≤ c ∧ c ≤ 122) by rw [decide_eq_false (by omega)]; rfl]
              exact q, fun _ => rfl⟩
        refine wp_of e ?_
        rw [w_eq (eqD_signs _ fun c hm => hc c (List.mem_filter.mp hm).1), isNm_str, decide_eq_true (show 0 < z.length ∧ z.length ≤ 8 from ⟨h1, h2⟩), Bool.true_and]
        refine ⟨?_, rfl⟩
        congr 3
        rw [Bool.eq_iff_iff, List.isEmpty_iff, List.filter_eq_nil_iff, List.all_eq_true]
        constructor
        · intro hh c hm
          have := hh c hm
          simpa using this
        · intro hh c hm
          have := hh c hm
          simpa using this
      · rw [if_pos (by simp [c_MAX_LETTERS]; omega), isNm_str, decide_eq_false (by omega)]
        exact ⟨rfl, trivial⟩
    · rw [if_neg (by omega), isNm_str, decide_eq_false (by omega)]
      exact ⟨rfl, trivial⟩
  | _ => apply fnM_rt; unfold b__law_is_word; walk_at "sym"; rfl
end K01

namespace K01
open PySem PySem.Spec PyProof.Rows L2 Dz
local macro_rules | `(tactic| walk_at "sym") => `(tactic| simp [Dz.startE, Dz.sRet, Dz.sIf, Dz.sSeq, Dz.sNext, Dz.sSet, Dz.sPut, Dz.eAnd, Dz.eOr, Dz.eNot, Dz.bNot, Dz.bAnd, Dz.bOr, Dz.bYes, Dz.eIf, Dz.eTest, Dz.eCall, Dz.eCB, Dz.aCons, Dz.aNil, Dz.eVar, Dz.eC, Dz.eOp, Dz.eUn, Dz.eIx, Dz.eTup, Dz.eLst, Dz.eCell, Dz.dTup, Dz.dLst, Dz.dCell, Dz.asDs, Dz.asD, Dz.bnd_ret, Dz.bIsi, Dz.opt, Dz.tyN, Dz.kit_ii, Dz.kit_ib, Dz.kit_is, Dz.kit_it, Dz.kit_bi, Dz.kit_bb, Dz.kit_bs, Dz.kit_bt, Dz.kit_si, Dz.kit_sb, Dz.kit_ss, Dz.kit_st, Dz.kit_ni, Dz.kit_ns, Dz.kit_nt, Dz.kit_ti, Dz.kit_ts, Dz.kit_tt, Dz.kit_li, Dz.kit_ls, Dz.kit_lt, Dz.kit_di, Dz.kit_ds, Dz.kit_dt, Dz.asB, Dz.eChain, Dz.opNeg, Dz.opAdd, Dz.opSub, Dz.opMul, Dz.opMod, Dz.opDiv, Dz.opPow, Dz.g2I, Dz.yes2, Dz.cLt, Dz.cLe, Dz.cGt, Dz.cGe, Dz.cmpI, Dz.cIs, Dz.cIsNot, Dz.isNon, Dz.bLen, Dz.bAbs, Dz.bMax, Dz.bMin, Dz.tInt, Dz.gIx, Dz.iRg, Dz.itR, Dz.iOf, Dz.itL, Dz.itT, Dz.itS, Dz.sFor, Dz.eNew, Dz.sNew, Dz.lcF, Dz.wipeE])
local macro_rules | `(tactic| walk_at "stp") => `(tactic| simp only [Dz.w_var, Dz.w_c, Dz.w_op, Dz.w_ix, Dz.w_un, Dz.w_test, Dz.w_asB, Dz.w_not, Dz.w_and, Dz.w_or, Dz.w_if, Dz.w_sif, Dz.w_seq, Dz.after_nx, Dz.after_rt, Dz.w_next, Dz.w_ret, Dz.w_set, Dz.w_drop, Dz.w_put, Dz.w_nil, Dz.w_cons, Dz.w_cb, Dz.w_call, Dz.w_tup, Dz.w_lst, Dz.w_cell, Dz.w_for, Dz.w_of, Dz.w_rg, Dz.w_new, Dz.w_newC, Dz.w_lc, Dz.w_join, Dz.w_isS, Dz.w_chain, Dz.w_eand, Dz.w_eor, Dz.w_enot, Dz.w_ltS, Dz.w_leS, Dz.w_is, Dz.w_isnot, Dz.w_inS, Dz.w_rpr, Dz.w_itS, Dz.w_itL, Dz.w_itLs, Dz.w_itT, Dz.w_add, Dz.w_sub, Dz.w_neg, Dz.w_lt, Dz.w_le, Dz.w_gt, Dz.w_ge, Dz.w_int, Dz.w_intb, Dz.w_abs, Dz.w_max, Dz.w_min, Dz.w_lenL, Dz.w_lenT, Dz.w_lenR, Dz.wp_pur, Dz.startE, Dz.w_dtup, Dz.w_dlst, Dz.asDs_nil, Dz.asDs_cons, Dz.w_some, Dz.w_kTup, Dz.w_kLst, Dz.w_addL, Dz.w_addT, List.map_cons, List.map_nil, List.length_cons, List.length_nil, List.replicate, List.cons_append, List.nil_append, List.append_nil, List.getElem?_cons_zero, List.getElem?_cons_succ, List.set_cons_zero, List.set_cons_succ, Nat.reduceAdd, Nat.reduceSub, Nat.zero_add, Nat.sub_zero, Bool.not_true, Bool.not_false, if_true, if_false, Bool.false_eq_true, reduceIte, decide_eq_true_eq, Option.map_some, Nat.reduceLeDiff])
theorem good_app {x y : Str} (hx : Good (.str x)) (hy : Good (.str y)) (hl : x.length + y.length ≤ 1000) : Good (.str (x ++ y)) := by
  obtain ⟨_, h1⟩ := hx
  obtain ⟨_, h2⟩ := hy
  have e : (x ++ y).cps.toList = x.cps.toList ++ y.cps.toList := by
    show (x.cps ++ y.cps).toList = _
    simp
  refine ⟨?_, fun c hc => ?_⟩
  · show (x.cps ++ y.cps).size ≤ 1000
    rw [Array.size_append]
    exact hl
  · rw [e] at hc
    rcases List.mem_append.mp hc with hc | hc
    · exact h1 c hc
    · exact h2 c hc
theorem good_upper {x : Str} (hx : Good (.str x)) : Good (.str (Txt.upper x)) := by
  obtain ⟨hl, h1⟩ := hx
  rw [upper_ascii h1]
  refine ⟨?_, fun c hc => ?_⟩
  · show (x.cps.map up1).size ≤ 1000
    rw [Array.size_map]
    exact hl
  · have hc : c ∈ (x.cps.map up1).toList := hc
    rw [Array.toList_map] at hc
    obtain ⟨d, hd, rfl⟩ := List.mem_map.mp hc
    have := h1 d hd
    unfold up1
    split <;> omega
theorem good_num {i : Int} (h0 : 0 ≤ i) (h1 : i < 10 ^ 40) : Good (.str (toString i)) := by
  obtain ⟨m, rfl⟩ := Int.eq_ofNat_of_zero_le h0
  have e := PySem.W.KIN.signs_num m
  refine ⟨?_, fun c hc => ?_⟩
  · have hl : (Str.ofString (toString ((m : Nat) : Int))).length = (Nat.toDigits 10 m).length := by
      show (Str.ofString (toString ((m : Nat) : Int))).cps.size = _
      rw [← Array.length_toList, e, List.length_map]
    have : (Nat.toDigits 10 m).length ≤ 40 := (Nat.length_toDigits_le_iff (by decide) (by decide)).mpr (by omega)
    show (Str.ofString (toString ((m : Nat) : Int))).length ≤ 1000
    omega
  · have hc : c ∈ (Str.ofString (toString ((m : Nat) : Int))).cps.toList := hc
    rw [e] at hc
    obtain ⟨ch, hch, rfl⟩ := List.mem_map.mp hc
    have r := PyProof.Rows.digit_range (Nat.isDigit_of_mem_toDigits (by decide) (by decide) hch)
    omega
/-- a text of small letters -/
def Ltr (y : D) : Prop := ∃ c : Nat, y = .str ⟨#[c]⟩ ∧ 97 ≤ c ∧ c ≤ 122
theorem strsOf_ltr : ∀ {ys : List D}, (∀ y ∈ ys, Ltr y) → ∃ cs : List Nat, strsOf ys = some (cs.map fun c => (⟨#[c]⟩ : Str)) ∧ cs.length = ys.length ∧ ∀ c ∈ cs, 97 ≤ c ∧ c ≤ 122
  | [], _ => ⟨[], rfl, rfl, fun _ h => (nomatch h)⟩
  | y :: ys, h => by
    obtain ⟨c, rfl, h1, h2⟩ := h y List.mem_cons_self
    obtain ⟨cs, e, l, hc⟩ := strsOf_ltr (ys := ys) fun z hz => h z (List.mem_cons_of_mem _ hz)
    refine ⟨c :: cs, ?_, by simp [l], fun d hd => ?_⟩
    · show (match strsOf ys with | some bs => some ((⟨#[c]⟩ : Str) :: bs) | none => none) = _
      rw [e]
      rfl
    · rcases List.mem_cons.mp hd with rfl | hd
      · exact ⟨h1, h2⟩
      · exact hc d hd
theorem join_ltr (cs : List Nat) : (Txt.join "" (cs.map fun c => (⟨#[c]⟩ : Str))).cps.toList = cs := by
  rw [TL.join_eq]
  show TL.tl _ = _
  rw [TL.tl_join]
  have e : TL.tl "" = [] := rfl
  rw [e, List.map_map]
  clear e
  match cs with
  | [] => rfl
  | [c] => rfl
  | c :: d :: r =>
    have key : ∀ l : List Nat, TL.joinL [] (l.map (TL.tl ∘ fun c => (⟨#[c]⟩ : Str))) = l := by
      intro l
      induction l with
      | nil => rfl
      | cons c l ih =>
        cases l with
        | nil => rfl
        | cons d l =>
          rw [List.map_cons, List.map_cons]
          unfold TL.joinL
          rw [← List.map_cons (f := TL.tl ∘ fun c => (⟨#[c]⟩ : Str)), ih]
          rfl
    exact key _
theorem join_wp {ys : List D} {S : Sto} {Q : Vl → Sto → Prop} (h : ∀ y ∈ ys, Ltr y) (hl : ys.length ≤ 9) (q : ∀ z, Good (.str z) → z.length ≤ 9 → Q (.d (.str z)) S) : wp (mJoin (.d (.str "")) (.d (.lst ys))) S Q := by
  obtain ⟨cs, e, l, hc⟩ := strsOf_ltr h
  refine wp_opt e ?_
  have e2 : ((cs.map fun c => (⟨#[c]⟩ : Str)).map (·.length)).sum = cs.length := by
    clear e l hc
    induction cs with
    | nil => rfl
    | cons c cs ih =>
      rw [List.map_cons, List.map_cons, List.sum_cons, ih, List.length_cons]
      show 1 + cs.length = _
      omega
  have hz : (Str.ofString "").length = 0 := rfl
  rw [if_pos (by rw [e2, hz, List.length_map]; omega), wp_pur]
  have hL : (Txt.join "" (cs.map fun c => (⟨#[c]⟩ : Str))).length = cs.length := by
    show (Txt.join "" (cs.map fun c => (⟨#[c]⟩ : Str))).cps.size = _
    rw [← Array.length_toList, join_ltr]
  refine q _ ⟨by omega, fun c hm => ?_⟩ (by omega)
  rw [join_ltr] at hm
  have := hc c hm
  omega
theorem lim_eq (x : D) : isLim x = (isNon x || inRg x c_TOP) := by
  unfold isLim isInt inRg
  cases x with
  | int i =>
    simp only [isNon, Bool.false_or]
    by_cases h1 : 0 ≤ i <;> by_cases h2 : i < c_TOP <;> by_cases h3 : -c_TOP < i <;> simp [h1, h2, h3]
    simp [c_TOP] at h3
    omega
  | _ => rfl
theorem rpr_ok (b : Bool) : PyData.strOk (if b then ("True" : Str) else "False") = true := by cases b <;> decide +kernel
/-- one turn of the last loop -/
theorem odd_good : ∀ y ∈ ([.non, .int 0, .int 1, .int 7, .int 99, .int (-1), .bl true, .bl false, .str "", .str "a", .str "B", .str "abcdefghi", .tup [], .tup [.int 0], .tup [.int 1, .int 0], .tup [.int 0, .int 0], .lst [.int 0], .dct [], .str "p",
    .int (10 ^ (39 : Int).toNat), .tup [.non], .tup [.tup [.int 0, .int 0]], .tup [.tup [.int 0, .int 0], .tup [.int 0, .int 0]], .tup [.str "a"], .tup [.str "p", .int 0], .str "go", .str "fail", .str "left"] : List D), Good y := by
  intro y hy
  simp only [List.mem_cons, List.not_mem_nil, or_false] at hy
  have key : ∀ z : Str, (decide (z.length ≤ 1000) && z.cps.toList.all fun c => decide (c < 128)) = true → Good (.str z) := fun z h => by
    rw [Bool.and_eq_true] at h
    exact ⟨of_decide_eq_true h.1, fun c hc => of_decide_eq_true (List.all_eq_true.mp h.2 c hc)⟩
  rcases hy with rfl | rfl | rfl | rfl | rfl | rfl | rfl | rfl | rfl | rfl | rfl | rfl | rfl | rfl | rfl | rfl | rfl | rfl | rfl | rfl | rfl | rfl | rfl | rfl | rfl | rfl | rfl | rfl <;> first | trivial | exact key _ (by decide +kernel)
theorem odd_wp {n : Nat} {S : Sto} (h : Die n S) : wp (f__law_odd_one [.c n]) S fun x S' => ∃ y, x = .d y ∧ Good y ∧ Drw n S S' := by
  apply wp_fn
  unfold b__law_odd_one
  walk_at "stp"
  rw [w_pow (by decide +kernel)]
  walk_at "stp"
  refine wp_mono (pick_wp h ⟨_, .inl rfl⟩ (by decide) (by decide)) ?_
  rintro _ S1 ⟨y, rfl, hy, d⟩
  refine ⟨y, rfl, y, rfl, odd_good y hy, ?_⟩
  rw [d.take]
  exact d
theorem suf_good : ∀ y ∈ ([.str " ", .str "A", .str "0", .str "_", .str "z"] : List D), ∃ z, y = .str z ∧ z.length = 1 ∧ Good (.str z) := by
  intro y hy
  simp only [List.mem_cons, List.not_mem_nil, or_false] at hy
  have key : ∀ z : Str, (decide (z.length ≤ 1000) && z.cps.toList.all fun c => decide (c < 128)) = true → Good (.str z) := fun z h => by
    rw [Bool.and_eq_true] at h
    exact ⟨of_decide_eq_true h.1, fun c hc => of_decide_eq_true (List.all_eq_true.mp h.2 c hc)⟩
  rcases hy with rfl | rfl | rfl | rfl | rfl <;> exact ⟨_, rfl, by decide +kernel, key _ (by decide +kernel)⟩
theorem ltr_mem {y : D} (h : y ∈ itemsOf (.str "abcdefghijklmnopqrstuvwxyz")) : Ltr y := by
  have h : y ∈ Dz.signs "abcdefghijklmnopqrstuvwxyz" := h
  unfold Dz.signs at h
  obtain ⟨c, hc, rfl⟩ := List.mem_map.mp h
  have hc : c ∈ c_LETTERS.cps.toList := hc
  rw [letters_list, List.mem_range'_1] at hc
  exact ⟨c, rfl, by omega, by omega⟩
theorem log_small {v : Int} (h0 : 0 ≤ v) (h1 : v < 10 ^ 39) : v.natAbs.log2 < 1920 := by
  by_cases hz : v.natAbs = 0
  · rw [hz]
    decide
  · rw [Nat.log2_lt hz]
    have : v.natAbs < 10 ^ 39 := by omega
    exact Nat.lt_trans this (by decide +kernel)
theorem right_wp {n : Nat} {S : Sto} (h : Die n S) : wp (f__law_right [.c n]) S fun x S' => x = .d (.bl true) ∧ Drw n S S' := by
  apply wp_fn
  unfold b__law_right
  walk_at "stp"
  refine wp_mono (cast_wp h (by decide) (by decide)) ?_
  rintro _ S1 ⟨r, rfl, r0, r1, d1⟩
  rw [w_itR (by omega), if_pos (by rw [dInts_len]; omega)]
  refine wp_mono (lcL_wp (I := fun S' => Drw n S S') (B := Ltr) _ S1 d1 fun d _ S2 d2 => ⟨_, rfl, ?_⟩) ?_
  · show wp (eCall f__law_pick _ [some (Vl.c n), some (Vl.d (D.str "abcdefghijklmnopqrstuvwxyz")), none, none, some (.d d), none, none]) S2 _
    walk_at "stp"
    refine wp_mono (pick_wp (d2.die h) ⟨[], .inr (.inr ⟨_, rfl, by decide +kernel⟩)⟩ (by decide +kernel) (by decide +kernel)) ?_
    rintro _ S3 ⟨y, rfl, hy, d3⟩
    exact ⟨y, rfl, ltr_mem hy, d2.trans d3⟩
  rintro ys S2 ⟨ly, hy, d2⟩
  rw [dInts_len] at ly
  refine join_wp hy (by omega) fun z gz lz => ?_
  refine wp_mono (cast_wp (d2.die h) (by decide) (by decide)) ?_
  rintro _ S3 ⟨k, rfl, k0, k1, d3⟩
  rw [w_add, w_itR (by omega)]
  refine forL_wp (I := fun i ρ S' => ∃ (v : Int) (t : Option Vl), ρ = [some (Vl.c n), some (Vl.d (D.str "abcdefghijklmnopqrstuvwxyz")), some (.d (.str z)), some (.d (.int v)), t, none, none] ∧ 0 ≤ v ∧ v < 10 ^ i ∧ Drw n S S') _ 0 _ S3 ⟨0, none, rfl, by decide, by decide, d2.trans d3⟩ ?_ ?_
  · rintro j d ρ S4 hj ⟨v, t, rfl, v0, v1, d4⟩
    refine ⟨_, rfl, ?_⟩
    show wp (sSet 3 _ [some (Vl.c n), some (Vl.d (D.str "abcdefghijklmnopqrstuvwxyz")), some (.d (.str z)), some (.d (.int v)), some (.d d), none, none]) S4 _
    walk_at "stp"
    rw [w_mul_r (by decide)]
    refine wp_mono (cast_wp (d4.die h) (by decide) (by decide)) ?_
    rintro _ S5 ⟨q, rfl, q0, q1, d5⟩
    rw [w_add]
    refine ⟨_, .inl rfl, v * 10 + q, some (.d d), rfl, by omega, ?_, d4.trans d5⟩
    rw [Int.pow_succ]
    simp only [Nat.zero_add] at v1 ⊢
    omega
  rintro ρ S4 ⟨v, t, rfl, v0, v1, d4⟩
  rw [dInts_len] at v1
  have v2 : v < 10 ^ 39 := by
    refine Int.lt_of_lt_of_le v1 ?_
    have : 0 + (1 + k).toNat ≤ 39 := by omega
    exact_mod_cast Nat.pow_le_pow_right (by decide : 0 < 10) this
  walk_at "stp"
  refine wp_mono (pick_wp (d4.die h) ⟨_, .inl rfl⟩ (by decide) (by decide)) ?_
  rintro _ S5 ⟨y, rfl, hy5, d5⟩
  obtain ⟨sf, rfl, ls, gs⟩ := suf_good y hy5
  rw [w_addS (by omega), Dz.w_upper (by omega)]
  refine wp_mono (odd_wp ((d4.trans d5).die h)) ?_
  rintro _ S6 ⟨od, rfl, god, d6⟩
  walk_at "stp"
  rw [w_pow (by decide +kernel), w_sub, w_strI (log_small v0 v2), w_pow (by decide +kernel), w_sub]
  walk_at "stp"
  have dS : Drw n S S6 := d4.trans (d5.trans d6)
  refine forL_wp (I := fun i ρ S' => ∃ t', ρ = [some (Vl.c n), some (Vl.d (D.str "abcdefghijklmnopqrstuvwxyz")), some (Vl.d (D.str z)), some (Vl.d (D.int v)), t, some (.d (.lst _)), t'] ∧ S' = S6) _ 0 _ S6 ⟨none, rfl, rfl⟩ ?_ ?_
  · rintro j d ρ S7 hj ⟨t', rfl, rfl⟩
    have gd : Good d := by
      have hm := List.mem_of_getElem? hj
      simp only [List.mem_cons, List.not_mem_nil, or_false] at hm
      rcases hm with rfl | rfl | rfl | rfl | rfl | rfl | rfl | rfl | rfl | rfl | rfl | rfl | rfl | rfl | rfl | rfl
      · exact gz
      · exact good_app gz gs (by omega)
      · exact good_upper gz
      · exact god
      · trivial
      · trivial
      · trivial
      · exact good_num v0 (by omega)
      all_goals trivial
    refine ⟨_, rfl, ?_⟩
    show wp (sSeq _ _ [some (Vl.c n), some (Vl.d (D.str "abcdefghijklmnopqrstuvwxyz")), some (Vl.d (D.str z)), some (Vl.d (D.int v)), t, some (.d (.lst _)), some (.d d)]) S7 _
    walk_at "stp"
    refine wp_of (name_eq d gd) ?_
    rw [w_rpr]
    refine wp_of (word_eq d gd) ?_
    rw [w_rpr, w_ne (eqD_str (rpr_ok _) (rpr_ok _)), beq_self_eq_true]
    walk_at "stp"
    refine wp_of (is_limit_eq d gd.ty) ?_
    rw [w_rpr]
    by_cases hn : isNon d = true
    · rw [if_pos hn, w_ne (eqD_str (rpr_ok _) (show PyData.strOk "True" = true from rpr_ok true)), show isLim d = true by rw [lim_eq, hn, Bool.true_or], if_pos rfl, beq_self_eq_true]
      walk_at "stp"
      exact ⟨_, .inl rfl, _, rfl, trivial⟩
    · rw [if_neg hn, w_pow (by decide +kernel)]
      refine wp_of (is_number_eq d _ gd.ty) ?_
      have e : isLim d = inRg d (10 ^ (40 : Int).toNat) := by
        rw [lim_eq, Bool.eq_false_iff.mpr hn, Bool.false_or]
        rfl
      rw [← e, w_rpr, w_ne (eqD_str (rpr_ok _) (rpr_ok _)), beq_self_eq_true]
      walk_at "stp"
      exact ⟨_, .inl rfl, _, rfl, trivial⟩
  · rintro ρ S7 ⟨t', rfl, rfl⟩
    walk_at "stp"
    refine ⟨_, rfl, rfl, ?_⟩
    rw [dS.take]
    exact dS
theorem word5 : ∀ d ∈ ([.str "a", .str "zzzzzzzz", .str "aaaaaaaaa", .str "", .str "none"] : List D), Good d := by
  intro y hy
  simp only [List.mem_cons, List.not_mem_nil, or_false] at hy
  have key : ∀ z : Str, (decide (z.length ≤ 1000) && z.cps.toList.all fun c => decide (c < 128)) = true → Good (.str z) := fun z h => by
    rw [Bool.and_eq_true] at h
    exact ⟨of_decide_eq_true h.1, fun c hc => of_decide_eq_true (List.all_eq_true.mp h.2 c hc)⟩
  rcases hy with rfl | rfl | rfl | rfl | rfl <;> exact key _ (by decide +kernel)
theorem law_true (ns : List Int) (hl : ns.length ≤ 63) : ∃ S', f_law [.d (.scr ns)] [] = .ok (.d (.bl true)) S' := by
  have main : wp (f_law [.d (.scr ns)]) [] fun x S' => x = .d (.bl true) := by
    apply wp_fn
    unfold b_law
    walk_at "stp"
    have hm : ∃ k : Int, 0 ≤ k ∧ k ≤ 8 ∧ (if (if (ns.length : Int) < 8 then (ns.length : Int) else 8) > 1 then (if (ns.length : Int) < 8 then (ns.length : Int) else 8) else 1) = k := ⟨_, by split <;> split <;> omega, by split <;> split <;> omega, rfl⟩
    obtain ⟨k, k0, k1, e⟩ := hm
    rw [e, w_itR (by omega)]
    refine forL_wp (I := fun i ρ S' => ∃ a b c, ρ = [some (.d (.scr ns)), a, none, b, c, none]) _ 0 _ _ ⟨none, none, none, rfl⟩ ?_ ?_
    · rintro j d ρ S1 hj ⟨a, b, c, rfl⟩
      obtain ⟨hj, rfl⟩ := dInts_get hj
      refine ⟨_, rfl, ?_⟩
      show wp (sSeq _ _ [some (.d (.scr ns)), some (.d (.int _)), none, b, c, none]) S1 _
      walk_at "stp"
      refine wp_mono (numbers_wp (by omega) (by omega)) ?_
      rintro _ S2 ⟨rfl, x, y, z, rfl⟩
      rw [w_itR (by decide)]
      have dS : Die S1.length (S1 ++ [.lst [.int x, .int y, .int z]]) := ⟨x, y, z, List.getElem?_concat_length⟩
      refine forL_wp (I := fun i ρ S' => ∃ c, ρ = [some (.d (.scr ns)), some (.d (.int (0 + (j : Int)))), none, some (.c S1.length), c, none] ∧ Die S1.length S') _ 0 _ _ ⟨c, rfl, dS⟩ ?_ ?_
      · rintro i d ρ S3 hi ⟨c, rfl, dd⟩
        refine ⟨_, rfl, ?_⟩
        show wp (sIf _ _ _ [some (.d (.scr ns)), some (.d (.int _)), none, some (.c S1.length), some (.d d), none]) S3 _
        walk_at "stp"
        refine wp_mono (right_wp dd) ?_
        rintro _ S4 ⟨rfl, d4⟩
        walk_at "stp"
        exact ⟨_, .inl rfl, _, rfl, d4.die dd⟩
      · rintro ρ S3 ⟨c, rfl, dd⟩
        exact ⟨_, .inl rfl, _, _, _, rfl⟩
    · rintro ρ S1 ⟨a, b, c, rfl⟩
      walk_at "stp"
      have e5 : lcL (Tgt.one 5) bYes (eCall f_is_name (aCons (eVar 5) aNil)) (wipeE [some (Vl.d (D.scr ns)), a, none, b, c, none] [5]) [.str "a", .str "zzzzzzzz", .str "aaaaaaaaa", .str "", .str "none"]
          = pur ((([.str "a", .str "zzzzzzzz", .str "aaaaaaaaa", .str "", .str "none"] : List D).filter fun _ => true).map fun d => .bl (isNm d)) :=
        lcL_pure (b := fun _ => true) _ fun d hd => ⟨_, rfl, rfl, fun _ => pur_wp fun S Q q => by
          show wp (eCall f_is_name _ [some (Vl.d (D.scr ns)), a, none, b, c, some (.d d)]) S Q
          walk_at "stp"
          exact wp_of (name_eq d (word5 d hd)) q⟩
      refine wp_of e5 ?_
      rw [w_eq (k := true) (by decide +kernel)]
      walk_at "stp"
      refine wp_of (is_limit_eq .non (by decide)) ?_
      refine wp_of (is_limit_eq (.bl true) (by decide)) ?_
      walk_at "stp"
      rw [w_eq (k := true) (by decide +kernel)]
      exact ⟨_, rfl, rfl⟩
  obtain ⟨x, S', e, rfl⟩ := main
  exact ⟨S', e⟩
end K01

namespace K01
open PySem PySem.Spec PyProof.Rows L2 Dz
/-! ### the head -/
def fn : List He.DefD := [⟨("is_integer", none), "is_integer", "is_integer", defArgs s_is_integer, defBody s_is_integer, defScope s_is_integer, [], []⟩, ⟨("is_name", none), "is_name", "is_name", defArgs s_is_name, defBody s_is_name, defScope s_is_name, [], []⟩, ⟨("_law_numbers", none), "_law_numbers", "_law_numbers", defArgs s__law_numbers, defBody s__law_numbers, defScope s__law_numbers, [], []⟩, ⟨("_law_cast", none), "_law_cast", "_law_cast", defArgs s__law_cast, defBody s__law_cast, defScope s__law_cast, [], []⟩, ⟨("_law_is_number", none), "_law_is_number", "_law_is_number", defArgs s__law_is_number, defBody s__law_is_number, defScope s__law_is_number, [], []⟩, ⟨("_law_is_word", none), "_law_is_word", "_law_is_word", defArgs s__law_is_word, defBody s__law_is_word, defScope s__law_is_word, [], []⟩, ⟨("is_below", none), "is_below", "is_below", defArgs s_is_below, defBody s_is_below, defScope s_is_below, [], []⟩, ⟨("_law_pick", none), "_law_pick", "_law_pick", defArgs s__law_pick, defBody s__law_pick, defScope s__law_pick, [], []⟩, ⟨("is_limit", none), "is_limit", "is_limit", defArgs s_is_limit, defBody s_is_limit, defScope s_is_limit, [], []⟩, ⟨("_law_odd_one", none), "_law_odd_one", "_law_odd_one", defArgs s__law_odd_one, defBody s__law_odd_one, defScope s__law_odd_one, [], []⟩, ⟨("_law_right", none), "_law_right", "_law_right", defArgs s__law_right, defBody s__law_right, defScope s__law_right, [], []⟩, ⟨("law", none), "law", "law", defArgs s_law, defBody s_law, defScope s_law, [], []⟩]
def fa : List He.Fa := [.glo "is_integer", .glo "is_name", .glo "_law_numbers", .glo "_law_cast", .glo "_law_is_number", .glo "_law_is_word", .glo "is_below", .glo "_law_pick", .glo "is_limit", .glo "_law_odd_one", .glo "_law_right", .glo "law", .free "abs", .free "all", .free "bool", .free "int", .free "isinstance", .free "len", .free "max", .free "min", .free "range", .free "repr", .free "str", .str "LETTERS" c_LETTERS, .int "MAX_LETTERS" c_MAX_LETTERS, .int "TOP" c_TOP]
abbrev R : PySem.W.OpenRow := PySem.W.OpenLaw.row PySem.Challenge.rw_deepenough_k01_names_and_limits
abbrev hk : PySem.W.Hook := He.hookD 4 fa fn
def ob (s : PySem.W.SharedT) : He.AlD := He.obsDG 4 fa fn (HandSHeadRun.getT s)
theorem ob_eq (s : PySem.W.SharedT) : ob s = hk.obs s.abs := He.obsDG_eq (HandSHeadRun.getT_eq s)
def loose : List Str := ["LETTERS", "MAX_LETTERS", "TOP", "is_integer", "is_below", "is_name", "is_limit", "_law_numbers", "_law_cast", "_law_pick", "_law_is_number", "_law_is_word", "_law_odd_one", "_law_right"]
set_option maxHeartbeats 0 in
theorem run (w : World) : HandSHeadRun.RunEq R (PySem.W.view R.prog [16]) hk ob 4000 loose w := by
  intro os
  kernel_rfl
theorem facts {P : Program} {w : World} {K : Frag} {h : Heap} {mg : Str → Option Value} {f : Addr} (X : K.In h) (G : h.Ns mainGlobals mg) (hfa : mg ("law" : Str) = some (.ref f)) (c : He.SaysD fa fn K) :
    ∃ fd : FuncData, (∀ (s : Shared) (v : Value), BindsTo s fd ⟨[v], []⟩ [("_law_script", v)]) ∧ ∀ base : Heap, K.In base → base.Ns mainGlobals mg → FnOk P w K mg base CX0 5 f fd ["_law_script"] (spM K 1 f_law) := by
  have T : Txt0 K mg := ⟨He.free_ok X G (c.fact 12 (f := .free "abs") rfl), He.free_ok X G (c.fact 13 (f := .free "all") rfl), He.free_ok X G (c.fact 14 (f := .free "bool") rfl), He.free_ok X G (c.fact 15 (f := .free "int") rfl), He.free_ok X G (c.fact 16 (f := .free "isinstance") rfl), He.free_ok X G (c.fact 17 (f := .free "len") rfl), He.free_ok X G (c.fact 18 (f := .free "max") rfl), He.free_ok X G (c.fact 19 (f := .free "min") rfl), He.free_ok X G (c.fact 20 (f := .free "range") rfl), He.free_ok X G (c.fact 21 (f := .free "repr") rfl), He.free_ok X G (c.fact 22 (f := .free "str") rfl), He.str_ok X G (c.fact 23 (f := .str "LETTERS" c_LETTERS) rfl), He.int_ok X G (c.fact 24 (f := .int "MAX_LETTERS" c_MAX_LETTERS) rfl), He.int_ok X G (c.fact 25 (f := .int "TOP" c_TOP) rfl)⟩
  obtain ⟨fd_is_integer, F_is_integer⟩ := c.def_ 0 rfl
  have g_is_integer := He.glo_ok X G (c.fact 0 (f := .glo "is_integer") rfl)
  have D_is_integer := ok_is_integer (P := P) (w := w) T F_is_integer g_is_integer
  obtain ⟨fd_is_name, F_is_name⟩ := c.def_ 1 rfl
  have g_is_name := He.glo_ok X G (c.fact 1 (f := .glo "is_name") rfl)
  have D_is_name := ok_is_name (P := P) (w := w) T F_is_name g_is_name
  obtain ⟨fd__law_numbers, F__law_numbers⟩ := c.def_ 2 rfl
  have g__law_numbers := He.glo_ok X G (c.fact 2 (f := .glo "_law_numbers") rfl)
  have D__law_numbers := ok__law_numbers (P := P) (w := w) T F__law_numbers g__law_numbers
  obtain ⟨fd__law_cast, F__law_cast⟩ := c.def_ 3 rfl
  have g__law_cast := He.glo_ok X G (c.fact 3 (f := .glo "_law_cast") rfl)
  have D__law_cast := ok__law_cast (P := P) (w := w) T F__law_cast g__law_cast
  obtain ⟨fd__law_is_number, F__law_is_number⟩ := c.def_ 4 rfl
  have g__law_is_number := He.glo_ok X G (c.fact 4 (f := .glo "_law_is_number") rfl)
  have D__law_is_number := ok__law_is_number (P := P) (w := w) T F__law_is_number g__law_is_number
  obtain ⟨fd__law_is_word, F__law_is_word⟩ := c.def_ 5 rfl
  have g__law_is_word := He.glo_ok X G (c.fact 5 (f := .glo "_law_is_word") rfl)
  have D__law_is_word := ok__law_is_word (P := P) (w := w) T F__law_is_word g__law_is_word
  obtain ⟨fd_is_below, F_is_below⟩ := c.def_ 6 rfl
  have g_is_below := He.glo_ok X G (c.fact 6 (f := .glo "is_below") rfl)
  have D_is_below := ok_is_below (P := P) (w := w) T F_is_below g_is_below D_is_integer
  obtain ⟨fd__law_pick, F__law_pick⟩ := c.def_ 7 rfl
  have g__law_pick := He.glo_ok X G (c.fact 7 (f := .glo "_law_pick") rfl)
  have D__law_pick := ok__law_pick (P := P) (w := w) T F__law_pick g__law_pick D__law_cast
  obtain ⟨fd_is_limit, F_is_limit⟩ := c.def_ 8 rfl
  have g_is_limit := He.glo_ok X G (c.fact 8 (f := .glo "is_limit") rfl)
  have D_is_limit := ok_is_limit (P := P) (w := w) T F_is_limit g_is_limit D_is_below
  obtain ⟨fd__law_odd_one, F__law_odd_one⟩ := c.def_ 9 rfl
  have g__law_odd_one := He.glo_ok X G (c.fact 9 (f := .glo "_law_odd_one") rfl)
  have D__law_odd_one := ok__law_odd_one (P := P) (w := w) T F__law_odd_one g__law_odd_one D__law_pick
  obtain ⟨fd__law_right, F__law_right⟩ := c.def_ 10 rfl
  have g__law_right := He.glo_ok X G (c.fact 10 (f := .glo "_law_right") rfl)
  have D__law_right := ok__law_right (P := P) (w := w) T F__law_right g__law_right D_is_name D__law_cast D__law_is_number D__law_is_word D__law_pick D_is_limit D__law_odd_one
  obtain ⟨fd_law, F_law⟩ := c.def_ 11 rfl
  have g_law := He.glo_ok X G (c.fact 11 (f := .glo "law") rfl)
  have D_law := ok_law (P := P) (w := w) T F_law g_law D_is_name D__law_numbers D_is_limit D__law_right
  have e := hfa.symm.trans g_law
  cases e
  have b := FunD.bindsA (ps := ["_law_script"]) F_law fun _ _ _ _ _ _ us hl => match us, hl with | [_], _ => rfl
  exact ⟨fd_law, fun s v => b s [v] rfl, fun base _ _ => D_law.o base⟩

end K01
open PySem PySem.W PySem.Calls PyProof.Rows
set_option maxHeartbeats 0 in
set_option maxRecDepth 100000 in
theorem PySem.Challenge.cw_deepenough_k01_names_and_limits_holds : PySem.Challenge.rw_deepenough_k01_names_and_limits.Holds := by
  w_on; o_law
  refine HandSHeadRun.head_any (r := OpenLaw.row PySem.Challenge.rw_deepenough_k01_names_and_limits) (q := view (OpenLaw.row PySem.Challenge.rw_deepenough_k01_names_and_limits).prog [16]) (H := K01.hk) (ob := K01.ob) (M := 4000) (loose := K01.loose) (d := HandSHeadRun.topDef (OpenLaw.row PySem.Challenge.rw_deepenough_k01_names_and_limits).prog 16) (kwd := []) K01.ob_eq
    (by kernel_rfl) (fun s => by kernel_rfl) K01.run (by kernel_rfl) (by kernel_rfl) (by kernel_rfl) (by rfl) (by first | assumption | decide +kernel) (by decide +kernel) ⟨rfl, rfl, rfl, rfl, rfl, by decide +kernel⟩ ?hw ?hc
  case hw => w_witness2
  case hc =>
    refine L2.walk_ofE (l := PySem.Challenge.rw_deepenough_k01_names_and_limits) (n := 63) (k := 5) (x := "_law_script") (CX := L2.CX0) rfl (by decide) (by kernel_rfl) ⟨rfl, by decide, by decide⟩ ?F (fun _ _ _ _ z => z)
    intro w mg fa h Y G hmg0
    obtain ⟨K, KX, c⟩ := Y
    have hmg : mg ("law" : PySem.Str) = some (.ref fa) := by
      have e : (HandSHeadRun.topDef (OpenLaw.row PySem.Challenge.rw_deepenough_k01_names_and_limits).prog 16).name = ("law" : PySem.Str) := by kernel_rfl
      rw [← e]
      exact hmg0
    obtain ⟨fd, hb, hF⟩ := K01.facts (P := (PySem.Challenge.rw_deepenough_k01_names_and_limits).prog) (w := w) KX G hmg c
    refine ⟨K, fd, Dz.spM K 1 K01.f_law, KX, hb, fun H a ns hl _ hS => ?_, hF⟩
    exact Dz.law_end hS (K01.law_true ns hl)

