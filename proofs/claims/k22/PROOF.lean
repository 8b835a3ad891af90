import PyProof.Rows.All
import PySem.Challenge.RW_sortdraws_k22_whole_turns_of_forms
import HandS.Wide
import Wide.All
import OpenK.AllK
import Wide.FinOn
import HandS.ForMost
import HandS.Exc
import HandS.ExcInit
import HandS.WordsExc
import HandS.Deep
import HandS.DeepEq
import HandS.DictComp
import HandS.IsInst
import HandS.ExcOwn
import HandS.Flow
import HandS.TupAny
import KE.SortData
import HandS.Zip
import HandS.Star
import HandS.ClsMeth
import HandS.Property
import HandS.MakeKw
import HandS.MakeKwOnly
import HandS.Defaults
import KE.GoesEnum
import HandS.SetFor
import HandS.Strs
import KE.KCallOwn
import HandS.SlotsOwn
import KE.KOpsOwn
import KE.KFmtOwn
import PyProof.InstEq
import HandS.Style
import HandS.HeadEnd
import HandS.EndBits
import PyProof.ReprRoads
import PyProof.ReprLen
import PyProof.CallFns
import PyProof.Rows.ReprOcc
import HandS.RaiseMore
import HandS.Head0
import HandS.Head1
import HandS.Head2
import HandS.HeadHook1
import HandS.HeadHook2
import HandS.HeadNt
import HandS.TupLe
import HandS.Text
import HandS.FStr
section
set_option Elab.async false
set_option linter.all false
set_option autoImplicit false
set_option maxRecDepth 100000

/-! The data layer: pure data, its reading off the heap, the state of a def told by slots. -/
namespace Qd
open PySem PySem.Spec PyProof.Rows L2

inductive D where
  | non | bl (b : Bool) | int (i : Int) | str (s : Str) | ty (n : String) | glo (x : Str)
  | tup (l : List D) | lst (l : List D) | scr (l : List Int)
  | dic (ks vs : List D)
  | ins (c : Str) (ns : List Str) (vs : List D)
  | exc (c : Str) (ns : List Str) (vs : List D)
  | obj (m : Nat)

structure Wd where
  P : Hp
  r : List Addr
  me : Addr

/-- a text of a size and of signs that the machine knows -/
def okS (s : Str) : Bool := decide (s.length ≤ 16777216) && PyData.strOk s

def keyD : Key → D
  | .inl i => .int i
  | .inr x => .str x
def okKey : Key → Bool
  | .inl _ => true
  | .inr x => okS x
/-- the keys of a dict -/
def KeysD (ks : List D) (kvs : List (Key × V)) : Prop := ks = kvs.map (fun p => keyD p.1) ∧ (∀ p ∈ kvs, okKey p.1 = true) ∧ kvs.length ≤ sizeLine

section
variable (K : PySem.W.Frag) (mg : Str → Option Value)
mutual
/-- the value v is the data -/
def Rep (W : Wd) : D → V → Prop
  | .non, v => v = .non
  | .bl b, v => v = .bl b
  | .int i, v => v = .int i
  | .str s, v => v = .str s ∧ okS s = true
  | .ty n, v => v = .ty n
  | .glo x, v => ∃ a, v = .ref a ∧ mg x = some (.ref a)
  | .tup l, v => ∃ a vs, v = .ref a ∧ W.P a = some (.tup vs) ∧ l.length ≤ sizeLine ∧ Reps W l vs
  | .lst l, v => ∃ a vs, v = .ref a ∧ W.P a = some (.lst vs) ∧ l.length ≤ sizeLine ∧ Reps W l vs
  | .scr l, v => ∃ a, v = .ref a ∧ SqL K W.P a (l.map V.int) ∧ l.length ≤ sizeLine
  | .dic ks ds, v => ∃ a kvs, v = .ref a ∧ Rd W.P a (.dK kvs) ∧ KeysD ks kvs ∧ Reps W ds (kvs.map (·.2))
  | .ins c ns ds, v => ∃ a C dx vs, v = .ref a ∧ mg c = some (.ref C) ∧ W.P a = some (.ins C dx (ns.zip vs)) ∧ W.P dx = some (.own a) ∧ ns.length = vs.length ∧ Reps W ds vs
  | .exc _ _ _, _ => False
  | .obj m, v => ∃ a, v = .ref a ∧ W.r[m]? = some a
def Reps (W : Wd) : List D → List V → Prop
  | [], vs => vs = []
  | d :: ds, vs => ∃ v r, vs = v :: r ∧ Rep W d v ∧ Reps W ds r
end
end

/-- a world grows -/
structure Up (W W' : Wd) : Prop where
  P : ∀ a o, W.P a = some o → W'.P a = some o
  r : W.r <+: W'.r
  me : W'.me = W.me
theorem Up.refl (W : Wd) : Up W W := ⟨fun _ _ h => h, List.prefix_rfl, rfl⟩
theorem Up.trans {W W1 W2 : Wd} (a : Up W W1) (b : Up W1 W2) : Up W W2 := ⟨fun x o h => b.P x o (a.P x o h), a.r.trans b.r, b.me.trans a.me⟩
theorem rd_up {H H' : Hp} (h : ∀ a o, H a = some o → H' a = some o) {a : Addr} {u : HO} (x : Rd H a u) : Rd H' a u := by
  rcases x with x | ⟨o, x⟩
  · exact .inl (h _ _ x)
  · exact .inr ⟨o, h _ _ x⟩
theorem sql_up {K : PySem.W.Frag} {H H' : Hp} (h : ∀ a o, H a = some o → H' a = some o) {a : Addr} {xs : List V} (x : SqL K H a xs) : SqL K H' a xs := by
  rcases x with x | x
  · exact .inl (rd_up h x)
  · exact .inr x
section
variable {K : PySem.W.Frag} {mg : Str → Option Value} {W W' : Wd}
mutual
theorem Rep.up' (hP : ∀ a o, W.P a = some o → W'.P a = some o) (hr : W.r <+: W'.r) : ∀ {d : D} {v : V}, Rep K mg W d v → Rep K mg W' d v
  | .non, v, h => h
  | .bl b, v, h => h
  | .int i, v, h => h
  | .str s, v, h => h
  | .ty n, v, h => h
  | .glo x, v, h => h
  | .tup l, v, h => by
    obtain ⟨a, vs, e, hp, hz, r⟩ := h
    exact ⟨a, vs, e, hP _ _ hp, hz, Reps.up' hP hr r⟩
  | .lst l, v, h => by
    obtain ⟨a, vs, e, hp, hz, r⟩ := h
    exact ⟨a, vs, e, hP _ _ hp, hz, Reps.up' hP hr r⟩
  | .scr l, v, h => by
    obtain ⟨a, e, hp, hz⟩ := h
    exact ⟨a, e, sql_up hP hp, hz⟩
  | .dic ks ds, v, h => by
    obtain ⟨a, kvs, e, hp, hk, r⟩ := h
    exact ⟨a, kvs, e, rd_up hP hp, hk, Reps.up' hP hr r⟩
  | .ins c ns ds, v, h => by
    obtain ⟨a, C, dx, vs, e, hm, hp, hd, hl, r⟩ := h
    exact ⟨a, C, dx, vs, e, hm, hP _ _ hp, hP _ _ hd, hl, Reps.up' hP hr r⟩
  | .exc _ _ _, v, h => h
  | .obj m, v, h => by
    obtain ⟨a, e, hp⟩ := h
    exact ⟨a, e, by
      obtain ⟨t, ht⟩ := hr
      rw [← ht, List.getElem?_append_left (List.getElem?_eq_some_iff.mp hp).1]
      exact hp⟩
theorem Reps.up' (hP : ∀ a o, W.P a = some o → W'.P a = some o) (hr : W.r <+: W'.r) : ∀ {ds : List D} {vs : List V}, Reps K mg W ds vs → Reps K mg W' ds vs
  | [], vs, h => h
  | d :: ds, vs, h => by
    obtain ⟨v, r, e, h1, h2⟩ := h
    exact ⟨v, r, e, Rep.up' hP hr h1, Reps.up' hP hr h2⟩
end
theorem Rep.up (u : Up W W') {d : D} {v : V} (h : Rep K mg W d v) : Rep K mg W' d v := Rep.up' u.P u.r h
theorem Reps.up (u : Up W W') {ds : List D} {vs : List V} (h : Reps K mg W ds vs) : Reps K mg W' ds vs := Reps.up' u.P u.r h
theorem Reps.len : ∀ {ds : List D} {vs : List V}, Reps K mg W ds vs → ds.length = vs.length
  | [], vs, h => by
    have e : vs = [] := h
    rw [e]
    rfl
  | d :: ds, vs, h => by
    obtain ⟨v, r, e, _, h2⟩ := h
    rw [e, List.length_cons, List.length_cons, Reps.len h2]
theorem Reps.get : ∀ {ds : List D} {vs : List V} {i : Nat} {d : D}, Reps K mg W ds vs → ds[i]? = some d → ∃ v, vs[i]? = some v ∧ Rep K mg W d v
  | [], vs, i, d, h, e => by simp at e
  | x :: ds, vs, 0, d, h, e => by
    obtain ⟨v, r, rfl, h1, h2⟩ := h
    have q : x = d := by simpa using e
    subst q
    exact ⟨v, rfl, h1⟩
  | x :: ds, vs, i + 1, d, h, e => by
    obtain ⟨v, r, rfl, h1, h2⟩ := h
    obtain ⟨u, h3, h4⟩ := Reps.get (i := i) h2 (by simpa using e)
    exact ⟨u, by simpa using h3, h4⟩
theorem Reps.at : ∀ {ds : List D} {vs : List V} {i : Nat} {v : V}, Reps K mg W ds vs → vs[i]? = some v → ∃ d, ds[i]? = some d ∧ Rep K mg W d v
  | [], vs, i, d, h, e => by
    have q : vs = [] := h
    subst q
    simp at e
  | x :: ds, vs, 0, d, h, e => by
    obtain ⟨v, r, rfl, h1, h2⟩ := h
    have q : v = d := by simpa using e
    subst q
    exact ⟨x, rfl, h1⟩
  | x :: ds, vs, i + 1, d, h, e => by
    obtain ⟨v, r, rfl, h1, h2⟩ := h
    obtain ⟨u, h3, h4⟩ := Reps.at (i := i) h2 (by simpa using e)
    exact ⟨u, by simpa using h3, h4⟩
theorem Reps.append : ∀ {ds es : List D} {vs ws : List V}, Reps K mg W ds vs → Reps K mg W es ws → Reps K mg W (ds ++ es) (vs ++ ws)
  | [], es, vs, ws, h, k => by
    have q : vs = [] := h
    subst q
    exact k
  | x :: ds, es, vs, ws, h, k => by
    obtain ⟨v, r, rfl, h1, h2⟩ := h
    exact ⟨v, r ++ ws, rfl, h1, Reps.append h2 k⟩
theorem Reps.one {d : D} {v : V} (h : Rep K mg W d v) : Reps K mg W [d] [v] := ⟨v, [], rfl, h, rfl⟩
theorem Reps.take : ∀ {ds : List D} {vs : List V} (n : Nat), Reps K mg W ds vs → Reps K mg W (ds.take n) (vs.take n)
  | ds, vs, 0, h => by
    rw [List.take_zero, List.take_zero]
    exact rfl
  | [], vs, n + 1, h => by
    have q : vs = [] := h
    subst q
    exact rfl
  | x :: ds, vs, n + 1, h => by
    obtain ⟨v, r, rfl, h1, h2⟩ := h
    exact ⟨v, r.take n, rfl, h1, Reps.take n h2⟩
theorem Reps.drop : ∀ {ds : List D} {vs : List V} (n : Nat), Reps K mg W ds vs → Reps K mg W (ds.drop n) (vs.drop n)
  | ds, vs, 0, h => h
  | [], vs, n + 1, h => by
    have q : vs = [] := h
    subst q
    exact rfl
  | x :: ds, vs, n + 1, h => by
    obtain ⟨v, r, rfl, h1, h2⟩ := h
    exact Reps.drop n h2
theorem Reps.set {d : D} {v : V} (q : Rep K mg W d v) : ∀ {ds : List D} {vs : List V} (n : Nat), Reps K mg W ds vs → Reps K mg W (ds.set n d) (vs.set n v)
  | [], vs, n, h => by
    have q : vs = [] := h
    subst q
    exact rfl
  | x :: ds, vs, 0, h => by
    obtain ⟨w, r, rfl, h1, h2⟩ := h
    exact ⟨v, r, rfl, q, h2⟩
  | x :: ds, vs, n + 1, h => by
    obtain ⟨w, r, rfl, h1, h2⟩ := h
    exact ⟨w, r.set n v, rfl, h1, Reps.set q n h2⟩
theorem Reps.erase : ∀ {ds : List D} {vs : List V} (n : Nat), Reps K mg W ds vs → Reps K mg W (ds.eraseIdx n) (vs.eraseIdx n)
  | [], vs, n, h => by
    have q : vs = [] := h
    subst q
    exact rfl
  | x :: ds, vs, 0, h => by
    obtain ⟨w, r, rfl, h1, h2⟩ := h
    exact h2
  | x :: ds, vs, n + 1, h => by
    obtain ⟨w, r, rfl, h1, h2⟩ := h
    exact ⟨w, r.eraseIdx n, rfl, h1, Reps.erase n h2⟩
theorem Reps.nil_iff {ds : List D} {vs : List V} (h : Reps K mg W ds vs) : vs = [] ↔ ds = [] := by
  have e := h.len
  constructor
  · intro q
    subst q
    exact List.length_eq_zero_iff.mp e
  · intro q
    subst q
    exact List.length_eq_zero_iff.mp e.symm
end

/-! ### the state -/
inductive MO where
  | lst (l : List D)
  | ins (c : Str) (ns : List Str) (vs : List D)
abbrev MS := List MO
inductive Sl where
  | fz (d : D)
  | ol (l : List D)
  | od (ks vs : List D)
  | oi (c : Str) (ns : List Str) (vs : List D)
abbrev Env := List (Option Sl)
/-- the frame's entry -/
structure C0 where
  P0 : Hp
  r0 : List Addr
  H0 : Hp
section
variable (K : PySem.W.Frag) (mg : Str → Option Value)
def MRep (W : Wd) (H : Hp) (a : Addr) : MO → Prop
  | .lst l => ∃ vs, H a = some (.lst vs) ∧ Reps K mg W l vs
  | .ins c ns ds => ∃ C dx vs, mg c = some (.ref C) ∧ H a = some (.ins C dx (ns.zip vs)) ∧ W.P dx = some (.own a) ∧ ns.length = vs.length ∧ Reps K mg W ds vs
def SlRep (W : Wd) (o : Nat → Option Addr) (H : Hp) (i : Nat) : Sl → Option V → Prop
  | .fz d, x => ∃ v, x = some v ∧ Rep K mg W d v
  | .ol l, x => ∃ a vs, o i = some a ∧ x = some (.ref a) ∧ H a = some (.lst vs) ∧ l.length ≤ sizeLine ∧ Reps K mg W l vs
  | .od ks ds, x => ∃ a kvs, o i = some a ∧ x = some (.ref a) ∧ H a = some (.dK kvs) ∧ KeysD ks kvs ∧ Reps K mg W ds (kvs.map (·.2))
  | .oi c ns ds, x => ∃ a C dx vs, o i = some a ∧ (x = some (.ref a) ∧ a = W.me) ∧ mg c = some (.ref C) ∧ H a = some (.ins C dx (ns.zip vs)) ∧ W.P dx = some (.own a) ∧ ns.length = vs.length ∧ Reps K mg W ds vs
/-- the state is told: c the frame's entry, W the world, o the slots' own objects -/
structure Mt (c : C0) (W : Wd) (o : Nat → Option Addr) (σ : L2.St) (H : Hp) (e : Env) (m : MS) : Prop where
  sub : ∀ a u, W.P a = some u → H a = some u
  p0 : ∀ a u, c.P0 a = some u → W.P a = some u
  gP : ∀ a, W.P a ≠ none → c.P0 a ≠ none ∨ c.H0 a = none
  r0 : c.r0 <+: W.r
  gr : ∀ a ∈ W.r, a ∈ c.r0 ∨ c.H0 a = none
  fr : ∀ a u, c.H0 a = some u → a ∉ c.r0 → H a = some u
  rnd : W.r.Nodup
  rP : ∀ a ∈ W.r, W.P a = none ∧ H a ≠ none
  own : ∀ i a, o i = some a → W.P a = none ∧ a ∉ W.r ∧ c.H0 a = none ∧ H a ≠ none
  inj : ∀ i j a, o i = some a → o j = some a → i = j
  len : e.length = σ.length
  env : ∀ (i : Nat) (s : Sl), e[i]? = some (some s) → ∃ x, σ[i]? = some x ∧ SlRep K mg W o H i s x
  ms : m.length = W.r.length ∧ ∀ (j : Nat) (mo : MO) (a : Addr), m[j]? = some mo → W.r[j]? = some a → MRep K mg W H a mo
end
section
variable {K : PySem.W.Frag} {mg : Str → Option Value} {c : C0} {W W' : Wd} {o : Nat → Option Addr} {σ : L2.St} {H H' : Hp} {e : Env} {m : MS}
theorem MRep.up (u : Up W W') {a : Addr} {mo : MO} (h : MRep K mg W H a mo) (k : H a ≠ none → H' a = H a) : MRep K mg W' H' a mo := by
  cases mo with
  | lst l =>
    obtain ⟨vs, h1, h2⟩ := h
    exact ⟨vs, by rw [k (by rw [h1]; simp)]; exact h1, h2.up u⟩
  | ins c ns ds =>
    obtain ⟨C, dx, vs, h1, h2, h3, h4, h5⟩ := h
    exact ⟨C, dx, vs, h1, by rw [k (by rw [h2]; simp)]; exact h2, u.P _ _ h3, h4, h5.up u⟩
theorem SlRep.up (u : Up W W') {i : Nat} {s : Sl} {x : Option V} (h : SlRep K mg W o H i s x) (k : ∀ a, o i = some a → H a ≠ none → H' a = H a) : SlRep K mg W' o H' i s x := by
  cases s with
  | fz d =>
    obtain ⟨v, h1, h2⟩ := h
    exact ⟨v, h1, h2.up u⟩
  | ol l =>
    obtain ⟨a, vs, h1, h2, h3, hz, h4⟩ := h
    exact ⟨a, vs, h1, h2, by rw [k a h1 (by rw [h3]; simp)]; exact h3, hz, h4.up u⟩
  | od ks ds =>
    obtain ⟨a, kvs, h1, h2, h3, h4, h5⟩ := h
    exact ⟨a, kvs, h1, h2, by rw [k a h1 (by rw [h3]; simp)]; exact h3, h4, h5.up u⟩
  | oi c ns ds =>
    obtain ⟨a, C, dx, vs, h1, ⟨h2, hm⟩, h3, h4, h5, h6, h7⟩ := h
    exact ⟨a, C, dx, vs, h1, ⟨h2, hm.trans u.me.symm⟩, h3, by rw [k a h1 (by rw [h4]; simp)]; exact h4, u.P _ _ h5, h6, h7.up u⟩
theorem SlRep.own {i : Nat} {s : Sl} {x : Option V} {o' : Nat → Option Addr} (h : SlRep K mg W o H i s x) (k : o' i = o i) : SlRep K mg W o' H i s x := by
  cases s with
  | fz d => exact h
  | ol l =>
    obtain ⟨a, vs, h1, h2⟩ := h
    exact ⟨a, vs, k.trans h1, h2⟩
  | od ks ds =>
    obtain ⟨a, kvs, h1, h2⟩ := h
    exact ⟨a, kvs, k.trans h1, h2⟩
  | oi c ns ds =>
    obtain ⟨a, C, dx, vs, h1, h2⟩ := h
    exact ⟨a, C, dx, vs, k.trans h1, h2⟩
/-- what is new now was new at the entry -/
theorem Mt.new0 (M : Mt K mg c W o σ H e m) {p : Addr} (h : H p = none) : c.H0 p = none := by
  cases q : c.H0 p with
  | none => rfl
  | some u =>
    by_cases z : p ∈ c.r0
    · exact absurd h (M.rP p (M.r0.subset z)).2
    · rw [M.fr p u q z] at h
      cases h
theorem Mt.newP (M : Mt K mg c W o σ H e m) {p : Addr} (h : H p = none) : W.P p = none := by
  cases q : W.P p with
  | none => rfl
  | some u =>
    rw [M.sub p u q] at h
    cases h
theorem Mt.ne_r (M : Mt K mg c W o σ H e m) {p : Addr} (h : H p = none) : p ∉ W.r := fun z => (M.rP p z).2 h
theorem Mt.ne_o (M : Mt K mg c W o σ H e m) {p : Addr} (h : H p = none) (i : Nat) : o i ≠ some p := fun z => (M.own i p z).2.2.2 h
theorem upd_some {H : Hp} {p a : Addr} {u v : HO} (h : H p = none) (k : H a = some u) : upd H p v a = some u := by
  rw [upd_ne (ne_of_none k h)]
  exact k
theorem upd_not {H : Hp} {p a : Addr} {v : HO} (h : H p = none) (k : H a ≠ none) : upd H p v a = H a := upd_ne fun z => k (by rw [z]; exact h)
/-- the heap changes where nothing of the state stands, the world grows by what is new -/
theorem Mt.move (M : Mt K mg c W o σ H e m) (u : Up W W') (hr : W'.r = W.r) (hs : ∀ a x, W'.P a = some x → H' a = some x) (hP : ∀ a, W'.P a ≠ none → W.P a ≠ none ∨ H a = none)
    (k : ∀ a, H a ≠ none → H' a = H a) : Mt K mg c W' o σ H' e m where
  sub := hs
  p0 := fun a x h => u.P a x (M.p0 a x h)
  gP := fun a h => by
    rcases hP a h with q | q
    · exact M.gP a q
    · exact .inr (M.new0 q)
  r0 := by rw [hr]; exact M.r0
  gr := by rw [hr]; exact M.gr
  fr := fun a x h n => by
    have q := M.fr a x h n
    rw [k a (by rw [q]; simp)]
    exact q
  rnd := by rw [hr]; exact M.rnd
  rP := fun a h => by
    rw [hr] at h
    obtain ⟨h1, h2⟩ := M.rP a h
    refine ⟨?_, by rw [k a h2]; exact h2⟩
    cases q : W'.P a with
    | none => rfl
    | some x =>
      rcases hP a (by rw [q]; simp) with z | z
      · exact absurd h1 z
      · exact absurd z h2
  own := fun i a h => by
    obtain ⟨h1, h2, h3, h4⟩ := M.own i a h
    refine ⟨?_, by rw [hr]; exact h2, h3, by rw [k a h4]; exact h4⟩
    cases q : W'.P a with
    | none => rfl
    | some x =>
      rcases hP a (by rw [q]; simp) with z | z
      · exact absurd h1 z
      · exact absurd z h4
  inj := M.inj
  len := M.len
  env := fun i s h => by
    obtain ⟨x, h1, h2⟩ := M.env i s h
    exact ⟨x, h1, h2.up u fun a _ hn => k a hn⟩
  ms := by
    rw [hr]
    exact ⟨M.ms.1, fun j mo a h1 h2 => (M.ms.2 j mo a h1 h2).up u fun hn => k a hn⟩
def Wd.put (W : Wd) (p : Addr) (u : HO) : Wd := ⟨upd W.P p u, W.r, W.me⟩
theorem up_put {p : Addr} {u : HO} (h : W.P p = none) : Up W (W.put p u) := ⟨fun a x k => upd_some h k, List.prefix_rfl, rfl⟩
/-- a new object that stays -/
theorem Mt.lay (M : Mt K mg c W o σ H e m) {p : Addr} (u : HO) (h : H p = none) : Mt K mg c (W.put p u) o σ (upd H p u) e m := by
  refine M.move (up_put (M.newP h)) rfl (fun a x q => ?_) (fun a q => ?_) fun a q => upd_not h q
  · by_cases z : a = p
    · subst z
      rw [show (W.put a u).P a = some u from upd_same] at q
      rw [upd_same]
      exact q
    · rw [show (W.put p u).P a = W.P a from upd_ne z] at q
      rw [upd_ne z]
      exact M.sub a x q
  · by_cases z : a = p
    · subst z
      exact .inr h
    · rw [show (W.put p u).P a = W.P a from upd_ne z] at q
      exact .inl q
/-- a new object that nothing asks for -/
theorem Mt.junk (M : Mt K mg c W o σ H e m) {p : Addr} (u : HO) (h : H p = none) : Mt K mg c W o σ (upd H p u) e m :=
  M.move (Up.refl W) rfl (fun a x q => upd_some h (M.sub a x q)) (fun a q => .inl q) fun a q => upd_not h q
def offO (o : Nat → Option Addr) (i : Nat) : Nat → Option Addr := fun j => if j = i then none else o j
def setO (o : Nat → Option Addr) (i : Nat) (p : Addr) : Nat → Option Addr := fun j => if j = i then some p else o j
/-- a slot is stored: data -/
theorem Mt.setF (M : Mt K mg c W o σ H e m) {i : Nat} {d : D} {v : V} (h : Rep K mg W d v) : Mt K mg c W (offO o i) (σ.set i (some v)) H (e.set i (some (.fz d))) m where
  sub := M.sub
  p0 := M.p0
  gP := M.gP
  r0 := M.r0
  gr := M.gr
  fr := M.fr
  rnd := M.rnd
  rP := M.rP
  own := fun j a q => by
    unfold offO at q
    split at q
    · cases q
    · exact M.own j a q
  inj := fun j k a q1 q2 => by
    unfold offO at q1 q2
    split at q1
    · cases q1
    · split at q2
      · cases q2
      · exact M.inj j k a q1 q2
  len := by rw [List.length_set, List.length_set]; exact M.len
  env := fun j s q => by
    by_cases z : j = i
    · subst z
      have hj : j < e.length := by
        have := (List.getElem?_eq_some_iff.mp q).1
        rwa [List.length_set] at this
      rw [List.getElem?_set_self hj] at q
      cases q
      exact ⟨some v, List.getElem?_set_self (by rw [← M.len]; exact hj), v, rfl, h⟩
    · rw [List.getElem?_set_ne (Ne.symm z)] at q
      obtain ⟨x, h1, h2⟩ := M.env j s q
      exact ⟨x, by rw [List.getElem?_set_ne (Ne.symm z)]; exact h1, h2.own (by unfold offO; rw [if_neg z])⟩
  ms := M.ms
/-- a slot is stored: an object of its own, new till now -/
theorem Mt.setO (M : Mt K mg c W o σ H e m) {i : Nat} {p : Addr} {s : Sl} {u : HO} (hp : H p = none) (h : SlRep K mg W (setO o i p) (upd H p u) i s (some (.ref p))) :
    Mt K mg c W (setO o i p) (σ.set i (some (.ref p))) (upd H p u) (e.set i (some s)) m := by
  have M' := M.junk u hp
  refine ⟨M'.sub, M'.p0, M'.gP, M'.r0, M'.gr, M'.fr, M'.rnd, M'.rP, fun j a q => ?_, fun j k a q1 q2 => ?_, by rw [List.length_set, List.length_set]; exact M.len, fun j s' q => ?_, M'.ms⟩
  · unfold Qd.setO at q
    split at q
    · cases q
      exact ⟨M.newP hp, M.ne_r hp, M.new0 hp, by rw [upd_same]; simp⟩
    · exact M'.own j a q
  · unfold Qd.setO at q1 q2
    split at q1
    · cases q1
      rename_i z1
      split at q2
      · rename_i z2
        rw [z1, z2]
      · exact absurd q2 (M.ne_o hp k)
    · split at q2
      · cases q2
        exact absurd q1 (M.ne_o hp j)
      · exact M.inj j k a q1 q2
  · by_cases z : j = i
    · subst z
      have hj : j < e.length := by
        have := (List.getElem?_eq_some_iff.mp q).1
        rwa [List.length_set] at this
      rw [List.getElem?_set_self hj] at q
      cases q
      exact ⟨some (.ref p), List.getElem?_set_self (by rw [← M.len]; exact hj), h⟩
    · rw [List.getElem?_set_ne (Ne.symm z)] at q
      obtain ⟨x, h1, h2⟩ := M'.env j s' q
      exact ⟨x, by rw [List.getElem?_set_ne (Ne.symm z)]; exact h1, h2.own (by unfold Qd.setO; rw [if_neg z])⟩
/-- a slot is forgotten -/
theorem Mt.forget (M : Mt K mg c W o σ H e m) {i : Nat} : Mt K mg c W (offO o i) σ H (e.set i none) m where
  sub := M.sub
  p0 := M.p0
  gP := M.gP
  r0 := M.r0
  gr := M.gr
  fr := M.fr
  rnd := M.rnd
  rP := M.rP
  own := fun j a q => by
    unfold offO at q
    split at q
    · cases q
    · exact M.own j a q
  inj := fun j k a q1 q2 => by
    unfold offO at q1 q2
    split at q1
    · cases q1
    · split at q2
      · cases q2
      · exact M.inj j k a q1 q2
  len := by rw [List.length_set]; exact M.len
  env := fun j s q => by
    by_cases z : j = i
    · subst z
      have hj : j < e.length := by
        have := (List.getElem?_eq_some_iff.mp q).1
        rwa [List.length_set] at this
      rw [List.getElem?_set_self hj] at q
      cases q
    · rw [List.getElem?_set_ne (Ne.symm z)] at q
      obtain ⟨x, h1, h2⟩ := M.env j s q
      exact ⟨x, h1, h2.own (by unfold offO; rw [if_neg z])⟩
  ms := M.ms
/-- a slot's own object is changed -/
theorem Mt.turn (M : Mt K mg c W o σ H e m) {i : Nat} {p : Addr} {s s' : Sl} {u : HO} (ho : o i = some p) (he : e[i]? = some (some s)) (h : ∀ x, σ[i]? = some x → SlRep K mg W o H i s x → SlRep K mg W o (upd H p u) i s' x) :
    Mt K mg c W o σ (upd H p u) (e.set i (some s')) m := by
  obtain ⟨oP, oR, oH, _⟩ := M.own i p ho
  have ne : ∀ a, a ≠ p → upd H p u a = H a := fun a z => upd_ne z
  refine ⟨fun a x q => ?_, M.p0, M.gP, M.r0, M.gr, fun a x q n => ?_, M.rnd, fun a q => ?_, fun j a q => ?_, M.inj, by rw [List.length_set]; exact M.len, fun j t q => ?_, M.ms.1, fun j mo a h1 h2 => ?_⟩
  · rw [ne a (fun z => by rw [z, oP] at q; cases q)]
    exact M.sub a x q
  · rw [ne a (fun z => by rw [z, oH] at q; cases q)]
    exact M.fr a x q n
  · rw [ne a (fun z => oR (z ▸ q))]
    exact M.rP a q
  · obtain ⟨h1, h2, h3, h4⟩ := M.own j a q
    refine ⟨h1, h2, h3, ?_⟩
    by_cases z : a = p
    · rw [z, upd_same]
      simp
    · rw [ne a z]
      exact h4
  · by_cases z : j = i
    · subst z
      have hj : j < e.length := (List.getElem?_eq_some_iff.mp he).1
      rw [List.getElem?_set_self hj] at q
      cases q
      obtain ⟨x, h1, h2⟩ := M.env j s he
      exact ⟨x, h1, h x h1 h2⟩
    · rw [List.getElem?_set_ne (Ne.symm z)] at q
      obtain ⟨x, h1, h2⟩ := M.env j t q
      exact ⟨x, h1, h2.up (Up.refl W) fun a ha _ => ne a fun y => z (M.inj j i a ha (y ▸ ho))⟩
  · exact (M.ms.2 j mo a h1 h2).up (Up.refl W) fun _ => ne a fun y => oR (y ▸ List.mem_of_getElem? h2)
/-- a slot's own object becomes data that stays -/
theorem Mt.freeze (M : Mt K mg c W o σ H e m) {i : Nat} {p : Addr} {d : D} {u : HO} (ho : o i = some p) (hu : H p = some u) (hσ : σ[i]? = some (some (.ref p))) (h : Rep K mg (W.put p u) d (.ref p)) :
    Mt K mg c (W.put p u) (offO o i) σ H (e.set i (some (.fz d))) m := by
  obtain ⟨oP, oR, oH, _⟩ := M.own i p ho
  have up := up_put (u := u) oP
  have at_ : ∀ a, a ≠ p → (W.put p u).P a = W.P a := fun a z => upd_ne z
  refine ⟨fun a x q => ?_, fun a x q => up.P a x (M.p0 a x q), fun a q => ?_, M.r0, M.gr, M.fr, M.rnd, fun a q => ?_, fun j a q => ?_, fun j k a q1 q2 => ?_, by rw [List.length_set]; exact M.len, fun j s q => ?_, M.ms.1, fun j mo a h1 h2 => ?_⟩
  · by_cases z : a = p
    · subst z
      rw [show (W.put a u).P a = some u from upd_same] at q
      rw [hu]
      exact q
    · rw [at_ a z] at q
      exact M.sub a x q
  · by_cases z : a = p
    · subst z
      exact .inr oH
    · rw [at_ a z] at q
      exact M.gP a q
  · rw [at_ a (fun z => oR (z ▸ q))]
    exact M.rP a q
  · unfold offO at q
    split at q
    · cases q
    · rename_i z
      obtain ⟨h1, h2, h3, h4⟩ := M.own j a q
      refine ⟨?_, h2, h3, h4⟩
      rw [at_ a fun y => z (M.inj j i a q (y ▸ ho))]
      exact h1
  · unfold offO at q1 q2
    split at q1
    · cases q1
    · split at q2
      · cases q2
      · exact M.inj j k a q1 q2
  · by_cases z : j = i
    · subst z
      have hj : j < e.length := by
        have := (List.getElem?_eq_some_iff.mp q).1
        rwa [List.length_set] at this
      rw [List.getElem?_set_self hj] at q
      cases q
      exact ⟨some (.ref p), hσ, .ref p, rfl, h⟩
    · rw [List.getElem?_set_ne (Ne.symm z)] at q
      obtain ⟨x, h1, h2⟩ := M.env j s q
      exact ⟨x, h1, (h2.own (o' := offO o i) (by unfold offO; rw [if_neg z])).up up fun _ _ _ => rfl⟩
  · exact (M.ms.2 j mo a h1 h2).up up fun _ => rfl
/-- an object that others share is changed -/
theorem Mt.mset (M : Mt K mg c W o σ H e m) {j : Nat} {a : Addr} {mo : MO} {u : HO} (hr : W.r[j]? = some a) (h : MRep K mg W (upd H a u) a mo) : Mt K mg c W o σ (upd H a u) e (m.set j mo) := by
  have ha : a ∈ W.r := List.mem_of_getElem? hr
  obtain ⟨aP, aH⟩ := M.rP a ha
  have ne : ∀ b, b ≠ a → upd H a u b = H b := fun b z => upd_ne z
  refine ⟨fun b x q => ?_, M.p0, M.gP, M.r0, M.gr, fun b x q n => ?_, M.rnd, fun b q => ?_, fun i b q => ?_, M.inj, M.len, fun i s q => ?_, by rw [List.length_set]; exact M.ms.1, fun i mo' b h1 h2 => ?_⟩
  · rw [ne b (fun z => by rw [z, aP] at q; cases q)]
    exact M.sub b x q
  · have nb : b ≠ a := fun z => by
      subst z
      rcases M.gr b ha with y | y
      · exact n y
      · rw [y] at q; cases q
    rw [ne b nb]
    exact M.fr b x q n
  · refine ⟨(M.rP b q).1, ?_⟩
    by_cases z : b = a
    · rw [z, upd_same]
      simp
    · rw [ne b z]
      exact (M.rP b q).2
  · obtain ⟨h1, h2, h3, h4⟩ := M.own i b q
    exact ⟨h1, h2, h3, by rw [ne b fun z => h2 (z ▸ ha)]; exact h4⟩
  · obtain ⟨x, h1, h2⟩ := M.env i s q
    exact ⟨x, h1, h2.up (Up.refl W) fun b hb _ => ne b fun z => (M.own i b hb).2.1 (z ▸ ha)⟩
  · by_cases z : i = j
    · subst z
      have hi : i < m.length := by
        have := (List.getElem?_eq_some_iff.mp h1).1
        rwa [List.length_set] at this
      rw [List.getElem?_set_self hi] at h1
      cases h1
      rw [hr] at h2
      cases h2
      exact h
    · rw [List.getElem?_set_ne (Ne.symm z)] at h1
      refine (M.ms.2 i mo' b h1 h2).up (Up.refl W) fun _ => ne b fun y => z ?_
      subst y
      obtain ⟨l1, e1⟩ := List.getElem?_eq_some_iff.mp h2
      obtain ⟨l2, e2⟩ := List.getElem?_eq_some_iff.mp hr
      exact (List.getElem_inj M.rnd).mp (e1.trans e2.symm)
end
end Qd
end
section
set_option Elab.async false
set_option linter.all false
set_option autoImplicit false
set_option maxRecDepth 100000

/-! Results, what is wanted behind them, readings by functions of the state. -/
namespace Qd
open PySem PySem.Spec PyProof.Rows L2

inductive R (α : Type) where
  | ok (a : α) (e : Env) (m : MS)
  | ex (n : Str) (ns : List Str) (vs : List D) (e : Env) (m : MS)
  | no
def R.bind {α β : Type} (r : R α) (k : α → Env → MS → R β) : R β :=
  match r with
  | .ok a e m => k a e m
  | .ex n ns vs e m => .ex n ns vs e m
  | .no => .no
@[simp] theorem R.bind_ok {α β : Type} (a : α) (e : Env) (m : MS) (k : α → Env → MS → R β) : (R.ok a e m).bind k = k a e m := rfl
@[simp] theorem R.bind_ex {α β : Type} (n : Str) (ns : List Str) (vs : List D) (e : Env) (m : MS) (k : α → Env → MS → R β) : (R.ex n ns vs e m : R α).bind k = .ex n ns vs e m := rfl
@[simp] theorem R.bind_no {α β : Type} (k : α → Env → MS → R β) : (R.no : R α).bind k = .no := rfl
def fin {α : Type} (o : Option α) (e : Env) (m : MS) : R α := match o with
  | some a => .ok a e m
  | none => .no
@[simp] theorem fin_some {α : Type} (a : α) (e : Env) (m : MS) : fin (some a) e m = .ok a e m := rfl
@[simp] theorem fin_none {α : Type} (e : Env) (m : MS) : fin (none : Option α) e m = .no := rfl

/-- an exception's own dict -/
def ExRep (K : PySem.W.Frag) (mg : Str → Option Value) (W : Wd) (ns : List Str) (ds : List D) (dd : Option Addr) : Prop :=
  ∃ vs, Reps K mg W ds vs ∧ ns.length = vs.length ∧ ((ns = [] ∧ dd = none) ∨ ∃ d, dd = some d ∧ W.P d = some (.xd (ns.zip vs)))

section
variable (K : PySem.W.Frag) (mg : Str → Option Value) (c : C0)
/-- what follows: Q of the value, Wx of an exception -/
def Post {α β : Type} (W : Wd) (σ : L2.St) (Rp : Wd → α → β → Prop) (Q : β → Hp → Prop) (Wx : WX) : R α → Prop
  | .ok a e m => ∀ (W' : Wd) (o' : Nat → Option Addr) (H' : Hp) (v : β), Up W W' → Mt K mg c W' o' σ H' e m → Rp W' a v → Q v H'
  | .ex n ns ds e m => ∀ (W' : Wd) (o' : Nat → Option Addr) (H' : Hp) (C : Addr) (dd : Option Addr), Up W W' → Mt K mg c W' o' σ H' e m → mg n = some (.ref C) → ExRep K mg W' ns ds dd → Wx (.ref C) dd σ H'
  | .no => False
end
section
variable {K : PySem.W.Frag} {mg : Str → Option Value} {c : C0} {α β γ δ : Type} {W W1 : Wd} {σ : L2.St} {Rp : Wd → α → β → Prop} {Rq : Wd → γ → δ → Prop} {Q Q' : β → Hp → Prop} {Wx : WX}
theorem Post.up {r : R α} (u : Up W W1) (h : Post K mg c W σ Rp Q Wx r) : Post K mg c W1 σ Rp Q Wx r := by
  cases r with
  | ok a e m => exact fun W' o' H' v u' M q => h W' o' H' v (u.trans u') M q
  | ex n ns ds e m => exact fun W' o' H' C dd u' M q1 q2 => h W' o' H' C dd (u.trans u') M q1 q2
  | no => exact h
theorem Post.mono {r : R α} (h : Post K mg c W σ Rp Q Wx r) (k : ∀ v H, Q v H → Q' v H) : Post K mg c W σ Rp Q' Wx r := by
  cases r with
  | ok a e m => exact fun W' o' H' v u' M q => k _ _ (h W' o' H' v u' M q)
  | ex n ns ds e m => exact h
  | no => exact h
/-- one behind another -/
theorem Post.bind {r : R α} {k : α → Env → MS → R γ} {Q2 : δ → Hp → Prop} (h : Post K mg c W σ Rq Q2 Wx (r.bind k)) :
    Post K mg c W σ Rp (fun v H1 => ∃ W1 o1 e1 m1 a, Up W W1 ∧ Mt K mg c W1 o1 σ H1 e1 m1 ∧ Rp W1 a v ∧ Post K mg c W1 σ Rq Q2 Wx (k a e1 m1)) Wx r := by
  cases r with
  | ok a e m => exact fun W' o' H' v u' M q => ⟨W', o', e, m, a, u', M, q, Post.up u' h⟩
  | ex n ns ds e m => exact h
  | no => exact h
end

abbrev FE := Env → MS → R D
abbrev FT := Env → MS → R Bool
abbrev FA := Env → MS → R (List D)
section
variable (K : PySem.W.Frag) (mg : Str → Option Value) (c : C0) (Wx : WX)
def tE (f : FE) : TE := fun σ H Q => ∃ W o e m, Mt K mg c W o σ H e m ∧ Post K mg c W σ (Rep K mg) Q Wx (f e m)
def RpB : Wd → Bool → Bool → Prop := fun _ a b => a = b
def tT (f : FT) : TT := fun σ H Q => ∃ W o e m, Mt K mg c W o σ H e m ∧ Post K mg c W σ RpB Q Wx (f e m)
def tA (f : FA) : TA := fun σ H Q => ∃ W o e m, Mt K mg c W o σ H e m ∧ Post K mg c W σ (Reps K mg) Q Wx (f e m)
end
/-- an expression, a test, an argument list by functions -/
abbrev EE (X : Cx) (c : C0) (Wx : WX) (x : Expr) (f : FE) : Prop := PE X x (tE X.K X.mg c Wx f)
abbrev ET (X : Cx) (c : C0) (Wx : WX) (x : Expr) (f : FT) : Prop := PT X x (tT X.K X.mg c Wx f)
abbrev EW (X : Cx) (c : C0) (Wx : WX) (x : Expr) (f : FT) : Prop := PW X x (tT X.K X.mg c Wx f)
abbrev EA (X : Cx) (c : C0) (Wx : WX) (xs : List Expr) (f : FA) : Prop := PA X xs (tA X.K X.mg c Wx f)
abbrev EK (X : Cx) (c : C0) (Wx : WX) (xs : List Keyword) (f : FA) : Prop := PK X xs (tA X.K X.mg c Wx f)

theorem _root_.L2.PE.impQ {X : Cx} {x : Expr} {t t' : TE} (h : PE X x t) (k : ∀ σ H Q, t' σ H Q → t σ H Q) : PE X x t' := ⟨fun pins s σ H Q I q => h.run pins s σ H Q I (k _ _ _ q)⟩
theorem _root_.L2.PT.impQ {X : Cx} {x : Expr} {t t' : TT} (h : PT X x t) (k : ∀ σ H Q, t' σ H Q → t σ H Q) : PT X x t' := ⟨fun pins s σ H Q I q => h.run pins s σ H Q I (k _ _ _ q)⟩
theorem _root_.L2.PW.impQ {X : Cx} {x : Expr} {t t' : TT} (h : PW X x t) (k : ∀ σ H Q, t' σ H Q → t σ H Q) : PW X x t' := ⟨fun wh pins s σ H Q I q => h.run wh pins s σ H Q I (k _ _ _ q)⟩
theorem _root_.L2.PA.impQ {X : Cx} {x : List Expr} {t t' : TA} (h : PA X x t) (k : ∀ σ H Q, t' σ H Q → t σ H Q) : PA X x t' := ⟨fun pos pins s σ H Q I q => h.run pos pins s σ H Q I (k _ _ _ q)⟩
theorem _root_.L2.PK.impQ {X : Cx} {x : List Keyword} {t t' : TA} (h : PK X x t) (k : ∀ σ H Q, t' σ H Q → t σ H Q) : PK X x t' := ⟨fun pos pins s σ H Q I q => h.run pos pins s σ H Q I (k _ _ _ q)⟩
theorem _root_.L2.PS.impQ {X : Cx} {x : Stmt} {t t' : TS} (h : PS X x t) (k : ∀ D σ H, t' D σ H → t D σ H) : PS X x t' := ⟨fun pins s σ H D I q => h.run pins s σ H D I (k _ _ _ q)⟩
theorem _root_.L2.PSs.impQ {X : Cx} {x : List Stmt} {t t' : TS} (h : PSs X x t) (k : ∀ D σ H, t' D σ H → t D σ H) : PSs X x t' := ⟨fun pins s σ H D I q => h.run pins s σ H D I (k _ _ _ q)⟩

/-- nothing is told -/
def xNo : FE := fun _ _ => .no
def xNoT : FT := fun _ _ => .no
section
variable {X : Cx} {c : C0} {Wx : WX} {x : Expr}
theorem ee_no : EE X c Wx x xNo := ⟨fun pins s σ H Q I h => by
  obtain ⟨_, _, _, _, _, h⟩ := h
  exact h.elim⟩
theorem et_no : ET X c Wx x xNoT := ⟨fun pins s σ H Q I h => by
  obtain ⟨_, _, _, _, _, h⟩ := h
  exact h.elim⟩
end

/-! ### statements -/
inductive U where
  | nx (e : Env) (m : MS)
  | rt (d : D) (e : Env) (m : MS)
  | bk (e : Env) (m : MS)
  | ct (e : Env) (m : MS)
  | ex (n : Str) (ns : List Str) (vs : List D) (e : Env) (m : MS)
  | no
abbrev FS := Env → MS → U
def R.thn {α : Type} (r : R α) (k : α → Env → MS → U) : U :=
  match r with
  | .ok a e m => k a e m
  | .ex n ns vs e m => .ex n ns vs e m
  | .no => .no
@[simp] theorem R.thn_ok {α : Type} (a : α) (e : Env) (m : MS) (k : α → Env → MS → U) : (R.ok a e m).thn k = k a e m := rfl
@[simp] theorem R.thn_ex {α : Type} (n : Str) (ns : List Str) (vs : List D) (e : Env) (m : MS) (k : α → Env → MS → U) : (R.ex n ns vs e m : R α).thn k = .ex n ns vs e m := rfl
@[simp] theorem R.thn_no {α : Type} (k : α → Env → MS → U) : (R.no : R α).thn k = .no := rfl
section
variable (K : PySem.W.Frag) (mg : Str → Option Value) (c : C0)
def PostS (W : Wd) (Dn : Ends) (Wx : WX) : U → Prop
  | .nx e m => ∀ (W' : Wd) (o' : Nat → Option Addr) (σ' : L2.St) (H' : Hp), Up W W' → Mt K mg c W' o' σ' H' e m → Dn.nx σ' H'
  | .bk e m => ∀ (W' : Wd) (o' : Nat → Option Addr) (σ' : L2.St) (H' : Hp), Up W W' → Mt K mg c W' o' σ' H' e m → Dn.bk σ' H'
  | .ct e m => ∀ (W' : Wd) (o' : Nat → Option Addr) (σ' : L2.St) (H' : Hp), Up W W' → Mt K mg c W' o' σ' H' e m → Dn.ct σ' H'
  | .rt d e m => ∀ (W' : Wd) (o' : Nat → Option Addr) (σ' : L2.St) (H' : Hp) (v : V), Up W W' → Mt K mg c W' o' σ' H' e m → Rep K mg W' d v → Dn.rt v H'
  | .ex n ns ds e m => ∀ (W' : Wd) (o' : Nat → Option Addr) (σ' : L2.St) (H' : Hp) (C : Addr) (dd : Option Addr), Up W W' → Mt K mg c W' o' σ' H' e m → mg n = some (.ref C) → ExRep K mg W' ns ds dd → Wx (.ref C) dd σ' H'
  | .no => False
def tS (Wx : WX) (f : FS) : TS := fun Dn σ H => ∃ W o e m, Mt K mg c W o σ H e m ∧ PostS K mg c W Dn Wx (f e m)
end
abbrev SS (X : Cx) (c : C0) (Wx : WX) (x : Stmt) (f : FS) : Prop := PS X x (tS X.K X.mg c Wx f)
abbrev SSs (X : Cx) (c : C0) (Wx : WX) (xs : List Stmt) (f : FS) : Prop := PSs X xs (tS X.K X.mg c Wx f)
section
variable {K : PySem.W.Frag} {mg : Str → Option Value} {c : C0} {W W1 : Wd} {Dn Dn' : Ends} {Wx : WX}
theorem PostS.up {r : U} (u : Up W W1) (h : PostS K mg c W Dn Wx r) : PostS K mg c W1 Dn Wx r := by
  cases r with
  | nx e m => exact fun W' o' σ' H' u' M => h W' o' σ' H' (u.trans u') M
  | bk e m => exact fun W' o' σ' H' u' M => h W' o' σ' H' (u.trans u') M
  | ct e m => exact fun W' o' σ' H' u' M => h W' o' σ' H' (u.trans u') M
  | rt d e m => exact fun W' o' σ' H' v u' M q => h W' o' σ' H' v (u.trans u') M q
  | ex n ns ds e m => exact fun W' o' σ' H' C dd u' M q1 q2 => h W' o' σ' H' C dd (u.trans u') M q1 q2
  | no => exact h
/-- an expression, then the rest of the statement -/
theorem PostS.thn {α β : Type} {σ : L2.St} {Rp : Wd → α → β → Prop} {r : R α} {k : α → Env → MS → U} (h : PostS K mg c W Dn Wx (r.thn k)) :
    Post K mg c W σ Rp (fun v H1 => ∃ W1 o1 e1 m1 a, Up W W1 ∧ Mt K mg c W1 o1 σ H1 e1 m1 ∧ Rp W1 a v ∧ PostS K mg c W1 Dn Wx (k a e1 m1)) Wx r := by
  cases r with
  | ok a e m => exact fun W' o' H' v u' M q => ⟨W', o', e, m, a, u', M, q, PostS.up u' h⟩
  | ex n ns ds e m => exact fun W' o' H' C dd u' M q1 q2 => h W' o' σ H' C dd u' M q1 q2
  | no => exact h
end
def sNo : FS := fun _ _ => .no
def sNx : FS := fun e m => .nx e m
def sSeq (f g : FS) : FS := fun e m => match f e m with
  | .nx e m => g e m
  | r => r
def sRet (f : FE) : FS := fun e m => (f e m).thn fun d e m => .rt d e m
def sRetN : FS := fun e m => .rt .non e m
def sIf (t : FT) (f g : FS) : FS := fun e m => (t e m).thn fun b e m => if b then f e m else g e m
def sDrop (f : FE) : FS := fun e m => (f e m).thn fun _ e m => .nx e m
def sSet (i : Nat) (f : FE) : FS := fun e m => (f e m).thn fun d e m => .nx (e.set i (some (.fz d))) m
def sForget (l : List Nat) : FS := fun e m => .nx (l.foldl (fun e i => e.set i none) e) m
def sBrk : FS := fun e m => .bk e m
def sCnt : FS := fun e m => .ct e m
section
variable {X : Cx} {c : C0} {Wx : WX} {x : Stmt} {xs : List Stmt} {f g : FS} {fe : FE} {ft : FT} {e : Expr} {pos : Pos}
theorem ss_no : SS X c Wx x sNo := ⟨fun pins s σ H Dn I h => by
  obtain ⟨_, _, _, _, _, h⟩ := h
  exact h.elim⟩
theorem sss_no : SSs X c Wx xs sNo := ⟨fun pins s σ H Dn I h => by
  obtain ⟨_, _, _, _, _, h⟩ := h
  exact h.elim⟩
theorem sss_nil : SSs X c Wx [] sNx := pss_nil.impQ fun Dn σ H ⟨W, o, e, m, M, h⟩ => h W o σ H (Up.refl W) M
theorem sss_cons (h1 : SS X c Wx x f) (h2 : SSs X c Wx xs g) : SSs X c Wx (x :: xs) (sSeq f g) :=
  (pss_cons h1 h2).impQ fun Dn σ H ⟨W, o, e, m, M, h⟩ => ⟨W, o, e, m, M, by
    unfold sSeq at h
    cases q : f e m with
    | nx e' m' =>
      rw [q] at h
      exact fun W' o' σ' H' u M' => ⟨W', o', e', m', M', PostS.up u h⟩
    | rt d e' m' => rw [q] at h; exact h
    | bk e' m' => rw [q] at h; exact h
    | ct e' m' => rw [q] at h; exact h
    | ex n ns ds e' m' => rw [q] at h; exact h
    | no => rw [q] at h; exact h⟩
theorem sss_one (h1 : SS X c Wx x f) : SSs X c Wx [x] f := pss_one h1
theorem ss_ret (h : EE X c Wx e fe) : SS X c Wx (.Return (some e) pos) (sRet fe) :=
  (ps_ret h).impQ fun Dn σ H ⟨W, o, e, m, M, h⟩ => ⟨W, o, e, m, M, (PostS.thn h).mono fun v H1 ⟨W1, o1, e1, m1, a, u, M1, r, q⟩ => q W1 o1 σ H1 v (Up.refl W1) M1 r⟩
theorem ss_retN : SS X c Wx (.Return none pos) sRetN := ps_retN.impQ fun Dn σ H ⟨W, o, e, m, M, h⟩ => h W o σ H .non (Up.refl W) M rfl
theorem ss_pass : SS X c Wx (.Pass pos) sNx := ps_pass.impQ fun Dn σ H ⟨W, o, e, m, M, h⟩ => h W o σ H (Up.refl W) M
theorem ss_brk : SS X c Wx (.Break pos) sBrk := ps_break.impQ fun Dn σ H ⟨W, o, e, m, M, h⟩ => h W o σ H (Up.refl W) M
theorem ss_cnt : SS X c Wx (.Continue pos) sCnt := ps_continue.impQ fun Dn σ H ⟨W, o, e, m, M, h⟩ => h W o σ H (Up.refl W) M
theorem ss_if {t : Expr} {as bs : List Stmt} (ht : ET X c Wx t ft) (h1 : SSs X c Wx as f) (h2 : SSs X c Wx bs g) : SS X c Wx (.If t as bs pos) (sIf ft f g) :=
  (ps_if ht h1 h2).impQ fun Dn σ H ⟨W, o, e, m, M, h⟩ => ⟨W, o, e, m, M, (PostS.thn h).mono fun v H1 ⟨W1, o1, e1, m1, a, u, M1, r, q⟩ => by
    cases r
    cases v with
    | true => exact ⟨W1, o1, e1, m1, M1, q⟩
    | false => exact ⟨W1, o1, e1, m1, M1, q⟩⟩
theorem ss_drop (h : EE X c Wx e fe) (hs : swapsWith e none pos.line X.env = pure false := by rfl) : SS X c Wx (.Expr e pos) (sDrop fe) :=
  (ps_expr h hs).impQ fun Dn σ H ⟨W, o, e, m, M, h⟩ => ⟨W, o, e, m, M, (PostS.thn h).mono fun v H1 ⟨W1, o1, e1, m1, a, u, M1, r, q⟩ => q W1 o1 σ H1 (Up.refl W1) M1⟩
theorem ss_doc {x : Str} {j : Nat} {p1 p2 : Pos} : SS X c Wx (.Expr (.Constant (.str x) j p1) p2) sNx := ps_doc.impQ fun Dn σ H ⟨W, o, e, m, M, h⟩ => h W o σ H (Up.refl W) M
theorem ss_set {i : Nat} {x : Str} {pos' : Pos} (hN : X.N.Nodup) (hi : X.N[i]? = some x) (hx : Loc X.env.scope x) (he : EE X c Wx e fe) (hs : swapsWith e (some (.Name x pos')) pos.line X.env = pure false := by rfl)
    (hf : X.fn x = true ∨ X.env.scope.names.lookup x = some .local := by first | exact .inl rfl | exact .inr rfl | assumption) : SS X c Wx (.Assign [.Name x pos'] e pos) (sSet i fe) :=
  (ps_set hN hi hx he hs hf).impQ fun Dn σ H ⟨W, o, e, m, M, h⟩ => ⟨W, o, e, m, M, (PostS.thn h).mono fun v H1 ⟨W1, o1, e1, m1, a, u, M1, r, q⟩ => q W1 _ _ H1 (Up.refl W1) (M1.setF r)⟩
end
end Qd
end
section
set_option Elab.async false
set_option linter.all false
set_option autoImplicit false
set_option maxRecDepth 100000

namespace Qd
open PySem PySem.Spec PyProof.Rows L2
open PySem.PyData (strOk)

/-! ### texts -/
theorem okS_len {s : Str} (h : okS s = true) : s.length ≤ sizeLine := of_decide_eq_true (Bool.and_eq_true_iff.mp h).1
theorem okS_ok {s : Str} (h : okS s = true) : strOk s = true := (Bool.and_eq_true_iff.mp h).2
theorem okS_mk {s : Str} (h1 : s.length ≤ 16777216) (h2 : strOk s = true) : okS s = true := Bool.and_eq_true_iff.mpr ⟨decide_eq_true h1, h2⟩
theorem strOk_iff {s : Str} : strOk s = true ↔ ∀ c ∈ s.cps.toList, c < 0x110000 := by
  unfold strOk
  rw [← Array.all_toList, List.all_eq_true]
  simp
theorem strOk_append {a b : Str} (h1 : strOk a = true) (h2 : strOk b = true) : strOk (a ++ b) = true := by
  rw [strOk_iff] at *
  intro c hc
  have e : (a ++ b).cps.toList = a.cps.toList ++ b.cps.toList := by
    show (a.cps ++ b.cps).toList = _
    simp
  rw [e] at hc
  rcases List.mem_append.mp hc with q | q
  · exact h1 c q
  · exact h2 c q
theorem strOk_sub {a b : Str} (h1 : strOk a = true) (h : ∀ c ∈ b.cps.toList, c ∈ a.cps.toList) : strOk b = true := by
  rw [strOk_iff] at *
  exact fun c hc => h1 c (h c hc)

/-! ### plain data -/
mutual
def pdO : D → Option PyData
  | .non => some .none
  | .bl b => some (.bool b)
  | .int i => some (.int i)
  | .str s => some (.str s)
  | .tup l => (pdOs l).map .tuple
  | .lst l => (pdOs l).map .list
  | .scr l => some (.list (l.map .int))
  | .ty _ => none
  | .glo _ => none
  | .dic _ _ => none
  | .ins _ _ _ => none
  | .exc _ _ _ => none
  | .obj _ => none
def pdOs : List D → Option (List PyData)
  | [] => some []
  | d :: ds => match pdO d with
    | some p => match pdOs ds with
      | some ps => some (p :: ps)
      | none => none
    | none => none
end
section
variable {K : PySem.W.Frag} {mg : Str → Option Value} {W : Wd} {H : Hp}
theorem pdOs_cons {d : D} {ds : List D} {ps : List PyData} (h : pdOs (d :: ds) = some ps) : ∃ p q, pdO d = some p ∧ pdOs ds = some q ∧ ps = p :: q := by
  rw [pdOs] at h
  cases h1 : pdO d with
  | none => rw [h1] at h; cases h
  | some p =>
    cases h2 : pdOs ds with
    | none => rw [h1, h2] at h; cases h
    | some q =>
      rw [h1, h2] at h
      cases h
      exact ⟨p, q, rfl, rfl, rfl⟩
theorem scr_lay (l : List Int) : PyData.canLayAll0 (l.map .int) = true := by
  induction l with
  | nil => simp [PyData.canLayAll0]
  | cons a r ih => simp [PyData.canLayAll0, PyData.canLay0, ih]
theorem dp_ints (l : List Int) : DpAll K H (l.map V.int) (l.map .int) := by
  induction l with
  | nil => exact .nil
  | cons a r ih => exact .cons (.int a) ih
mutual
theorem Rep.dp (hs : ∀ a o, W.P a = some o → H a = some o) : ∀ {d : D} {v : V} {p : PyData}, Rep K mg W d v → pdO d = some p → Dp K H v p ∧ p.canLay0 = true
  | .non, v, p, h, e => by
    rw [pdO] at e
    cases e
    cases (show v = V.non from h)
    exact ⟨.non, by simp [PyData.canLay0]⟩
  | .bl b, v, p, h, e => by
    rw [pdO] at e
    cases e
    cases (show v = V.bl b from h)
    exact ⟨.bl b, by simp [PyData.canLay0]⟩
  | .int i, v, p, h, e => by
    rw [pdO] at e
    cases e
    cases (show v = V.int i from h)
    exact ⟨.int i, by simp [PyData.canLay0]⟩
  | .str s, v, p, h, e => by
    rw [pdO] at e
    cases e
    obtain ⟨h1, h2⟩ := (show v = V.str s ∧ okS s = true from h)
    cases h1
    exact ⟨.str s, by simpa [PyData.canLay0] using okS_ok h2⟩
  | .tup l, v, p, h, e => by
    rw [pdO] at e
    obtain ⟨ps, e1, rfl⟩ := Option.map_eq_some_iff.mp e
    obtain ⟨a, vs, rfl, hp, hzr, r⟩ := h
    obtain ⟨k1, k2⟩ := Reps.dp hs r e1
    exact ⟨.tup (SqT.of (hs _ _ hp)) k1, by simpa [PyData.canLay0] using k2⟩
  | .lst l, v, p, h, e => by
    rw [pdO] at e
    obtain ⟨ps, e1, rfl⟩ := Option.map_eq_some_iff.mp e
    obtain ⟨a, vs, rfl, hp, hzr, r⟩ := h
    obtain ⟨k1, k2⟩ := Reps.dp hs r e1
    exact ⟨.lst (SqL.of (hs _ _ hp)) k1, by simpa [PyData.canLay0] using k2⟩
  | .scr l, v, p, h, e => by
    rw [pdO] at e
    cases e
    obtain ⟨a, rfl, hp, hz⟩ := h
    exact ⟨.lst (sql_up hs hp) (dp_ints l), by simpa [PyData.canLay0] using scr_lay l⟩
  | .ty _, _, _, _, e => by rw [pdO] at e; cases e
  | .glo _, _, _, _, e => by rw [pdO] at e; cases e
  | .dic _ _, _, _, _, e => by rw [pdO] at e; cases e
  | .ins _ _ _, _, _, _, e => by rw [pdO] at e; cases e
  | .exc _ _ _, _, _, _, e => by rw [pdO] at e; cases e
  | .obj _, _, _, _, e => by rw [pdO] at e; cases e
theorem Reps.dp (hs : ∀ a o, W.P a = some o → H a = some o) : ∀ {ds : List D} {vs : List V} {ps : List PyData}, Reps K mg W ds vs → pdOs ds = some ps → DpAll K H vs ps ∧ PyData.canLayAll0 ps = true
  | [], vs, ps, h, e => by
    rw [pdOs] at e
    cases e
    cases (show vs = [] from h)
    exact ⟨.nil, by simp [PyData.canLayAll0]⟩
  | d :: ds, vs, ps, h, e => by
    obtain ⟨p, q, e1, e2, rfl⟩ := pdOs_cons e
    obtain ⟨v, r, rfl, h1, h2⟩ := h
    obtain ⟨a1, a2⟩ := Rep.dp hs h1 e1
    obtain ⟨b1, b2⟩ := Reps.dp hs h2 e2
    exact ⟨.cons a1 b1, by simp [PyData.canLayAll0, a2, b2]⟩
end
end
/-- a == b of plain data -/
def eqD (a b : D) : Option Bool :=
  match pdO a, pdO b with
  | some p, some q => if p.depth ≤ 60 ∧ q.depth ≤ 60 then some (PyData.eqv p q) else none
  | _, _ => none
theorem eqD_some {a b : D} {r : Bool} (h : eqD a b = some r) : ∃ p q, pdO a = some p ∧ pdO b = some q ∧ p.depth ≤ 60 ∧ q.depth ≤ 60 ∧ r = PyData.eqv p q := by
  unfold eqD at h
  split at h
  · rename_i p q h1 h2
    split at h
    · rename_i hd
      cases h
      exact ⟨p, q, h1, h2, hd.1, hd.2, rfl⟩
    · cases h
  · cases h
/-- x in xs, xs a tuple or a list of plain data -/
def inD (x y : D) : Option Bool :=
  match y with
  | .tup l => match pdO x, pdOs l with
    | some p, some ps => if p.depth ≤ 60 then some (ps.any fun z => PyData.eqv z p) else none
    | _, _ => none
  | .lst l => match pdO x, pdOs l with
    | some p, some ps => if p.depth ≤ 60 then some (ps.any fun z => PyData.eqv z p) else none
    | _, _ => none
  | .str z => match x with
    | .str s => match s.cps.toList with
      | [k] => some (decide (k ∈ z.cps.toList))
      | _ => none
    | _ => none
  | _ => none
theorem inD_seq {x y : D} {r : Bool} (h : inD x y = some r) : (∃ l p ps, (y = .tup l ∨ y = .lst l) ∧ pdO x = some p ∧ pdOs l = some ps ∧ p.depth ≤ 60 ∧ r = ps.any fun z => PyData.eqv z p) ∨
    ∃ k z, x = .str ⟨#[k]⟩ ∧ y = .str z ∧ r = decide (k ∈ z.cps.toList) := by
  cases y with
  | tup l =>
    simp only [inD] at h
    split at h
    · rename_i p ps h1 h2
      split at h
      · cases h
        exact .inl ⟨l, p, ps, .inl rfl, h1, h2, by assumption, rfl⟩
      · cases h
    · cases h
  | lst l =>
    simp only [inD] at h
    split at h
    · rename_i p ps h1 h2
      split at h
      · cases h
        exact .inl ⟨l, p, ps, .inr rfl, h1, h2, by assumption, rfl⟩
      · cases h
    · cases h
  | str z =>
    cases x with
    | str s =>
      simp only [inD] at h
      split at h
      · rename_i k hk
        cases h
        refine .inr ⟨k, z, ?_, rfl, rfl⟩
        obtain ⟨cs⟩ := s
        have e : cs = #[k] := by
          apply Array.toList_inj.mp
          exact hk
        rw [e]
      · cases h
    | _ => simp [inD] at h
  | _ => simp [inD] at h

/-! ### operators by values -/
section
variable (X : Cx) (c : C0) (Wx : WX)
def OpD (r : R2) (g : D → D → Env → MS → R D) : Prop := ∀ (W : Wd) (o : Nat → Option Addr) (σ : L2.St) (H : Hp) (e : Env) (m : MS) (x y : D) (vx vy : V) (Q : VK),
  Mt X.K X.mg c W o σ H e m → Rep X.K X.mg W x vx → Rep X.K X.mg W y vy → Post X.K X.mg c W σ (Rep X.K X.mg) Q Wx (g x y e m) → r vx vy H Q
def UnD (r : V → Hp → VK → Prop) (g : D → Env → MS → R D) : Prop := ∀ (W : Wd) (o : Nat → Option Addr) (σ : L2.St) (H : Hp) (e : Env) (m : MS) (x : D) (vx : V) (Q : VK),
  Mt X.K X.mg c W o σ H e m → Rep X.K X.mg W x vx → Post X.K X.mg c W σ (Rep X.K X.mg) Q Wx (g x e m) → r vx H Q
def CaD (r : List V → Hp → VK → Prop) (g : List D → Env → MS → R D) : Prop := ∀ (W : Wd) (o : Nat → Option Addr) (σ : L2.St) (H : Hp) (e : Env) (m : MS) (xs : List D) (vs : List V) (Q : VK),
  Mt X.K X.mg c W o σ H e m → Reps X.K X.mg W xs vs → Post X.K X.mg c W σ (Rep X.K X.mg) Q Wx (g xs e m) → r vs H Q
/-- o.m(..): the receiver's type is known to be T -/
def MeD (T : String) (r : V → List V → Hp → VK → Prop) (g : D → List D → Env → MS → R D) : Prop := ∀ (W : Wd) (o : Nat → Option Addr) (σ : L2.St) (H : Hp) (e : Env) (m : MS) (x : D) (vx : V) (xs : List D) (vs : List V) (Q : VK),
  Mt X.K X.mg c W o σ H e m → Rep X.K X.mg W x vx → Reps X.K X.mg W xs vs → Post X.K X.mg c W σ (Rep X.K X.mg) Q Wx (g x xs e m) → r vx vs H Q
end
def x1 (f : FE) (g : D → Env → MS → R D) : FE := fun e m => (f e m).bind g
def x2 (f1 f2 : FE) (g : D → D → Env → MS → R D) : FE := fun e m => (f1 e m).bind fun x e m => (f2 e m).bind fun y e m => g x y e m
def xA (f : FA) (g : List D → Env → MS → R D) : FE := fun e m => (f e m).bind g
def pur1 (g : D → Option D) : D → Env → MS → R D := fun x e m => fin (g x) e m
def pur2 (g : D → D → Option D) : D → D → Env → MS → R D := fun x y e m => fin (g x y) e m
def purA (g : List D → Option D) : List D → Env → MS → R D := fun xs e m => fin (g xs) e m
/-- a value's truth, of bools alone -/
def asB : D → Env → MS → R Bool := fun d e m => match d with
  | .bl b => .ok b e m
  | _ => .no
def tOf (f : FE) : FT := fun e m => (f e m).bind asB
section
variable {X : Cx} {c : C0} {Wx : WX}
theorem Post.fin {α β : Type} {W : Wd} {σ : L2.St} {Rp : Wd → α → β → Prop} {Q : β → Hp → Prop} {o : Option α} {e : Env} {m : MS} (h : Post X.K X.mg c W σ Rp Q Wx (fin o e m)) : ∃ a, o = some a ∧ Post X.K X.mg c W σ Rp Q Wx (.ok a e m) := by
  cases o with
  | none => exact h.elim
  | some a => exact ⟨a, rfl, h⟩
/-- the value is there, the heap stands -/
theorem Post.here {α β : Type} {W : Wd} {σ : L2.St} {Rp : Wd → α → β → Prop} {Q : β → Hp → Prop} {a : α} {o : Nat → Option Addr} {H : Hp} {e : Env} {m : MS} {v : β} (h : Post X.K X.mg c W σ Rp Q Wx (.ok a e m)) (M : Mt X.K X.mg c W o σ H e m) (r : Rp W a v) : Q v H :=
  h W o H v (Up.refl W) M r
/-- the value is a new object -/
theorem Post.new {W : Wd} {σ : L2.St} {Q : V → Hp → Prop} {d : D} {o : Nat → Option Addr} {H : Hp} {e : Env} {m : MS} {p : Addr} {u : HO} (h : Post X.K X.mg c W σ (Rep X.K X.mg) Q Wx (.ok d e m)) (M : Mt X.K X.mg c W o σ H e m) (hp : H p = none)
    (r : Rep X.K X.mg (W.put p u) d (.ref p)) : Q (.ref p) (upd H p u) :=
  h (W.put p u) o (upd H p u) (.ref p) (up_put (M.newP hp)) (M.lay u hp) r
theorem rep_tup {K : PySem.W.Frag} {mg : Str → Option Value} {W : Wd} {l : List D} {vs : List V} {p : Addr} (hp : W.P p = none) (hl : l.length ≤ sizeLine) (h : Reps K mg W l vs) : Rep K mg (W.put p (.tup vs)) (.tup l) (.ref p) :=
  ⟨p, vs, rfl, upd_same, hl, h.up (up_put hp)⟩
theorem rep_lst {K : PySem.W.Frag} {mg : Str → Option Value} {W : Wd} {l : List D} {vs : List V} {p : Addr} (hp : W.P p = none) (hl : l.length ≤ sizeLine) (h : Reps K mg W l vs) : Rep K mg (W.put p (.lst vs)) (.lst l) (.ref p) :=
  ⟨p, vs, rfl, upd_same, hl, h.up (up_put hp)⟩

variable {a b : Expr} {fa fb : FE} {pos : Pos}
theorem ee_op {op : Operator} {r : R2} {g : D → D → Env → MS → R D} (ho : OpR X (binaryOp op) r) (hg : OpD X c Wx r g) (ha : EE X c Wx a fa) (hb : EE X c Wx b fb) : EE X c Wx (.BinOp a op b pos) (x2 fa fb g) :=
  (pe_op ho ha hb).impQ fun σ H Q ⟨W, o, e, m, M, h⟩ => ⟨W, o, e, m, M, (Post.bind h).mono fun v H1 ⟨W1, o1, e1, m1, d1, u1, M1, r1, h1⟩ =>
    ⟨W1, o1, e1, m1, M1, (Post.bind h1).mono fun v2 H2 ⟨W2, o2, e2, m2, d2, u2, M2, r2, h2⟩ => hg W2 o2 σ H2 e2 m2 d1 d2 v v2 Q M2 (r1.up u2) r2 h2⟩⟩
theorem ee_cmp {op : CmpOp} {r : R2} {g : D → D → Env → MS → R D} (ho : OpR X (compareOp op) r) (hg : OpD X c Wx r g) (ha : EE X c Wx a fa) (hb : EE X c Wx b fb) (hm : behindInMarks op b = false) : EE X c Wx (.Compare a [op] [b] pos) (x2 fa fb g) :=
  (pe_cmpR ho ha hb hm).impQ fun σ H Q ⟨W, o, e, m, M, h⟩ => ⟨W, o, e, m, M, (Post.bind h).mono fun v H1 ⟨W1, o1, e1, m1, d1, u1, M1, r1, h1⟩ =>
    ⟨W1, o1, e1, m1, M1, (Post.bind h1).mono fun v2 H2 ⟨W2, o2, e2, m2, d2, u2, M2, r2, h2⟩ => hg W2 o2 σ H2 e2 m2 d1 d2 v v2 Q M2 (r1.up u2) r2 h2⟩⟩
theorem ee_un {op : UnaryOp} {r : V → Hp → VK → Prop} {g : D → Env → MS → R D} (ho : UnR X (unaryOp op) r) (hg : UnD X c Wx r g) (ha : EE X c Wx a fa) : EE X c Wx (.UnaryOp op a pos) (x1 fa g) :=
  (pe_un ho ha).impQ fun σ H Q ⟨W, o, e, m, M, h⟩ => ⟨W, o, e, m, M, (Post.bind h).mono fun v H1 ⟨W1, o1, e1, m1, d1, u1, M1, r1, h1⟩ => hg W1 o1 σ H1 e1 m1 d1 v Q M1 r1 h1⟩
/-- what a bool's reading asks -/
theorem post_asB {W : Wd} {o : Nat → Option Addr} {σ : L2.St} {H : Hp} {e : Env} {m : MS} {d : D} {v : V} {Q : Bool → Hp → Prop} (M : Mt X.K X.mg c W o σ H e m) (r : Rep X.K X.mg W d v) (h : Post X.K X.mg c W σ RpB Q Wx (asB d e m)) : ∃ k, v = .bl k ∧ d = .bl k ∧ Q k H := by
  cases d with
  | bl k => exact ⟨k, r, rfl, Post.here (Rp := RpB) h M rfl⟩
  | _ => exact h.elim
theorem et_cmp {op : CmpOp} {r : R2} {g : D → D → Env → MS → R D} (ho : OpR X (compareOp op) r) (hg : OpD X c Wx r g) (ha : EE X c Wx a fa) (hb : EE X c Wx b fb) (hm : behindInMarks op b = false) : ET X c Wx (.Compare a [op] [b] pos) (tOf (x2 fa fb g)) :=
  (pt_cmpR ho ha hb hm).impQ fun σ H Q ⟨W, o, e, m, M, h⟩ => by
    unfold tOf x2 at h
    have h0 := Post.bind (Rp := Rep X.K X.mg) h
    refine ⟨W, o, e, m, M, (Post.bind (Rp := Rep X.K X.mg) h0).mono fun v H1 ⟨W1, o1, e1, m1, d1, u1, M1, r1, h1⟩ => ⟨W1, o1, e1, m1, M1, (Post.bind h1).mono fun v2 H2 ⟨W2, o2, e2, m2, d2, u2, M2, r2, h2⟩ => ?_⟩⟩
    refine hg W2 o2 σ H2 e2 m2 d1 d2 v v2 _ M2 (r1.up u2) r2 (h2.mono fun v3 H3 ⟨W3, o3, e3, m3, d3, u3, M3, r3, h3⟩ => ?_)
    obtain ⟨k, hv, _, q⟩ := post_asB M3 r3 h3
    exact ⟨k, hv, q⟩
end
end Qd
end
section
set_option Elab.async false
set_option linter.all false
set_option autoImplicit false
set_option maxRecDepth 100000

namespace Qd
open PySem PySem.Spec PyProof.Rows L2
open PySem.PyData (strOk)
section
variable {X : Cx} {c : C0} {Wx : WX} {a b : Expr} {fa fb : FE} {pos : Pos}

/-! ### names, constants -/
def xVar (i : Nat) : FE := fun e m => match e[i]? with
  | some (some (.fz d)) => .ok d e m
  | _ => .no
/-- a name whose own object is from here on data -/
def xFrz (i : Nat) : FE := fun e m => match e[i]? with
  | some (some (.fz d)) => .ok d e m
  | some (some (.ol l)) => .ok (.lst l) (e.set i (some (.fz (.lst l)))) m
  | some (some (.od ks vs)) => .ok (.dic ks vs) (e.set i (some (.fz (.dic ks vs)))) m
  | _ => .no
def xC (d : D) : FE := fun e m => .ok d e m
theorem ee_var {i : Nat} {x : Str} (hN : X.N[i]? = some x) (hv : Vis X.env.scope x) (hd : (x == ("__debug__" : Str)) = false := by decide) (hcd : (x == ("__classdict__" : Str)) = false := by decide) : EE X c Wx (.Name x pos) (xVar i) :=
  (pe_var hN hv hd hcd).impQ fun σ H Q ⟨W, o, e, m, M, h⟩ => by
    unfold xVar at h
    split at h
    · rename_i d hd
      obtain ⟨y, h1, v, rfl, r⟩ := M.env i _ hd
      exact ⟨v, h1, Post.here h M r⟩
    · exact h.elim
theorem ee_frz {i : Nat} {x : Str} (hN : X.N[i]? = some x) (hv : Vis X.env.scope x) (hd : (x == ("__debug__" : Str)) = false := by decide) (hcd : (x == ("__classdict__" : Str)) = false := by decide) : EE X c Wx (.Name x pos) (xFrz i) :=
  (pe_var hN hv hd hcd).impQ fun σ H Q ⟨W, o, e, m, M, h⟩ => by
    unfold xFrz at h
    split at h
    · rename_i d hd
      obtain ⟨y, h1, v, rfl, r⟩ := M.env i _ hd
      exact ⟨v, h1, Post.here h M r⟩
    · rename_i l hd
      obtain ⟨y, h1, p, vs, ho, rfl, hp, hz, r⟩ := M.env i _ hd
      have oP := (M.own i p ho).1
      have rep := rep_lst oP hz r
      exact ⟨_, h1, h _ _ H (.ref p) (up_put oP) (M.freeze ho hp h1 rep) rep⟩
    · rename_i ks ds hd
      obtain ⟨y, h1, p, kvs, ho, rfl, hp, hk, r⟩ := M.env i _ hd
      have oP := (M.own i p ho).1
      have rep : Rep X.K X.mg (W.put p (.dK kvs)) (.dic ks ds) (.ref p) := ⟨p, kvs, rfl, .inl upd_same, hk, r.up (up_put oP)⟩
      exact ⟨_, h1, h _ _ H (.ref p) (up_put oP) (M.freeze ho hp h1 rep) rep⟩
    · exact h.elim
theorem ee_int {i : Int} {j : Nat} : EE X c Wx (.Constant (.int i) j pos) (xC (.int i)) := pe_int.impQ fun σ H Q ⟨W, o, e, m, M, h⟩ => Post.here h M rfl
theorem ee_bl {i : Bool} {j : Nat} : EE X c Wx (.Constant (.bool i) j pos) (xC (.bl i)) := pe_bl.impQ fun σ H Q ⟨W, o, e, m, M, h⟩ => Post.here h M rfl
theorem ee_non {j : Nat} : EE X c Wx (.Constant .none j pos) (xC .non) := pe_non.impQ fun σ H Q ⟨W, o, e, m, M, h⟩ => Post.here h M rfl
theorem ee_str {s : Str} {j : Nat} (hs : okS s = true := by decide +kernel) : EE X c Wx (.Constant (.str s) j pos) (xC (.str s)) := pe_str.impQ fun σ H Q ⟨W, o, e, m, M, h⟩ => Post.here h M ⟨rfl, hs⟩
/-- a module's constant -/
theorem ee_gint {x : Str} {i : Int} (hg : Gl X x) (hm : ∃ t, X.mg x = some (.int i t)) (hd : (x == ("__debug__" : Str)) = false := by decide) : EE X c Wx (.Name x pos) (xC (.int i)) := by
  obtain ⟨t, hm⟩ := hm
  exact (pe_glob (v := .int i) hg hm ⟨t, rfl⟩ hd).impQ fun σ H Q ⟨W, o, e, m, M, h⟩ => Post.here h M rfl
theorem ee_gstr {x : Str} {s : Str} (hg : Gl X x) (hm : ∃ t, X.mg x = some (.str s t)) (hs : okS s = true := by decide +kernel) (hd : (x == ("__debug__" : Str)) = false := by decide) : EE X c Wx (.Name x pos) (xC (.str s)) := by
  obtain ⟨t, hm⟩ := hm
  exact (pe_glob (v := .str s) hg hm ⟨t, rfl⟩ hd).impQ fun σ H Q ⟨W, o, e, m, M, h⟩ => Post.here h M ⟨rfl, hs⟩
/-- a def or class of the module as a value -/
theorem ee_gref {x : Str} (hg : Gl X x) (hm : ∃ f, X.mg x = some (.ref f)) (hd : (x == ("__debug__" : Str)) = false := by decide) : EE X c Wx (.Name x pos) (xC (.glo x)) := by
  obtain ⟨f, hm⟩ := hm
  exact (pe_glob (v := .ref f) hg hm rfl hd).impQ fun σ H Q ⟨W, o, e, m, M, h⟩ => Post.here h M ⟨f, rfl, hm⟩
/-- a built-in class as a value -/
theorem ee_bty {x : Str} {n : String} (hg : Gl X x) (hm : X.mg x = none) (hv : bootBuiltins x = some (.type n)) (hn : x ≠ "__name__" := by decide) (hd : (x == ("__debug__" : Str)) = false := by decide) : EE X c Wx (.Name x pos) (xC (.ty n)) :=
  (pe_bltn (v := .ty n) hg hm hv rfl hn hd).impQ fun σ H Q ⟨W, o, e, m, M, h⟩ => Post.here h M rfl

/-! ### arguments, displays -/
def aNil : FA := fun e m => .ok [] e m
def aCons (f : FE) (g : FA) : FA := fun e m => (f e m).bind fun d e m => (g e m).bind fun ds e m => .ok (d :: ds) e m
theorem ea_nil : EA X c Wx [] aNil := pa_nil.impQ fun σ H Q ⟨W, o, e, m, M, h⟩ => Post.here (Rp := Reps X.K X.mg) h M rfl
theorem ea_cons {x : Expr} {xs : List Expr} {f : FE} {g : FA} (hx : EE X c Wx x f) (hr : EA X c Wx xs g) (hs : starEach (x :: xs) X.env = (false, eval x X.env) :: starEach xs X.env := by rfl) : EA X c Wx (x :: xs) (aCons f g) :=
  (pa_cons hx hr hs).impQ fun σ H Q ⟨W, o, e, m, M, h⟩ => ⟨W, o, e, m, M, (Post.bind h).mono fun v H1 ⟨W1, o1, e1, m1, d, u1, M1, r1, h1⟩ =>
    ⟨W1, o1, e1, m1, M1, (Post.bind h1).mono fun vs H2 ⟨W2, o2, e2, m2, ds, u2, M2, r2, h2⟩ => Post.here (Rp := Reps X.K X.mg) h2 M2 ⟨v, vs, rfl, r1.up u2, r2⟩⟩⟩
theorem ek_nil : EK X c Wx [] aNil := pk_nil.impQ fun σ H Q ⟨W, o, e, m, M, h⟩ => Post.here (Rp := Reps X.K X.mg) h M rfl
theorem ek_cons {x : Expr} {nm : Option Str} {kpos : Pos} {xs : List Keyword} {f : FE} {g : FA} (hx : EE X c Wx x f) (hr : EK X c Wx xs g) : EK X c Wx (⟨nm, x, kpos⟩ :: xs) (aCons f g) :=
  (pk_cons hx hr).impQ fun σ H Q ⟨W, o, e, m, M, h⟩ => ⟨W, o, e, m, M, (Post.bind h).mono fun v H1 ⟨W1, o1, e1, m1, d, u1, M1, r1, h1⟩ =>
    ⟨W1, o1, e1, m1, M1, (Post.bind h1).mono fun vs H2 ⟨W2, o2, e2, m2, ds, u2, M2, r2, h2⟩ => Post.here (Rp := Reps X.K X.mg) h2 M2 ⟨v, vs, rfl, r1.up u2, r2⟩⟩⟩
def mkTup : List D → Option D := fun l => if l.length ≤ 16777216 then some (.tup l) else none
def mkLst : List D → Option D := fun l => if l.length ≤ 16777216 then some (.lst l) else none
theorem mkTup_some {l : List D} {d : D} (h : mkTup l = some d) : d = .tup l ∧ l.length ≤ sizeLine := by
  unfold mkTup at h
  split at h
  · cases h
    exact ⟨rfl, by assumption⟩
  · cases h
theorem mkLst_some {l : List D} {d : D} (h : mkLst l = some d) : d = .lst l ∧ l.length ≤ sizeLine := by
  unfold mkLst at h
  split at h
  · cases h
    exact ⟨rfl, by assumption⟩
  · cases h
theorem ee_tup {xs : List Expr} {f : FA} {x1 : Nat} (h : EA X c Wx xs f) : EE X c Wx (.Tuple xs x1 pos) (xA f (purA mkTup)) :=
  (pe_tup h).impQ fun σ H Q ⟨W, o, e, m, M, h⟩ => ⟨W, o, e, m, M, (Post.bind h).mono fun vs H1 ⟨W1, o1, e1, m1, ds, u1, M1, r1, h1⟩ => by
    obtain ⟨d, hd, h2⟩ := Post.fin h1
    obtain ⟨rfl, hl⟩ := mkTup_some hd
    exact ⟨by rw [← r1.len]; exact hl, fun p hp => Post.new h2 M1 hp (rep_tup (M1.newP hp) hl r1)⟩⟩
theorem ee_lst {xs : List Expr} {f : FA} (h : EA X c Wx xs f) : EE X c Wx (.List xs pos) (xA f (purA mkLst)) :=
  (pe_lst h).impQ fun σ H Q ⟨W, o, e, m, M, h⟩ => ⟨W, o, e, m, M, (Post.bind h).mono fun vs H1 ⟨W1, o1, e1, m1, ds, u1, M1, r1, h1⟩ => by
    obtain ⟨d, hd, h2⟩ := Post.fin h1
    obtain ⟨rfl, hl⟩ := mkLst_some hd
    exact ⟨by rw [← r1.len]; exact hl, fun p hp => Post.new h2 M1 hp (rep_lst (M1.newP hp) hl r1)⟩⟩

/-! ### arithmetic -/
def addD : D → D → Option D
  | .int i, .int j => some (.int (i + j))
  | .str x, .str y => if x.length + y.length ≤ 16777216 then some (.str (x ++ y)) else none
  | .lst x, .lst y => if x.length + y.length ≤ 16777216 then some (.lst (x ++ y)) else none
  | .tup x, .tup y => if x.length + y.length ≤ 16777216 then some (.tup (x ++ y)) else none
  | _, _ => none
def subD : D → D → Option D
  | .int i, .int j => some (.int (i - j))
  | _, _ => none
def mulD : D → D → Option D
  | .int i, .int j => if (-(2 ^ 64) < i ∧ i < 2 ^ 64) ∨ (-(2 ^ 64) < j ∧ j < 2 ^ 64) then some (.int (i * j)) else none
  | .lst x, .int k => if -(2 ^ 63) ≤ k ∧ k < 2 ^ 63 ∧ x.length * k.toNat ≤ 16777216 then some (.lst (List.replicate k.toNat x).flatten) else none
  | _, _ => none
def fdivD : D → D → Option D
  | .int i, .int j => if 0 < j ∧ j < 1073741824 then some (.int (i / j)) else if 0 < j ∧ j.natAbs.log2 < 9000 then some (.int (i / j)) else none
  | _, _ => none
def modD : D → D → Option D
  | .int i, .int j => if 0 < j then some (.int (i % j)) else if j = 0 then none else some (.int (i.fmod j))
  | _, _ => none
def powD : D → D → Option D
  | .int i, .int j => if 0 ≤ j ∧ j ≤ 1000000 ∧ i.natAbs < 2 ^ 64 then some (.int (i ^ j.toNat)) else none
  | _, _ => none
theorem str_len_append (a b : Str) : (a ++ b).length = a.length + b.length := by
  show (a.cps ++ b.cps).size = _
  rw [Array.size_append]
  rfl
theorem okS_append {a b : Str} (h1 : okS a = true) (h2 : okS b = true) (h : a.length + b.length ≤ 16777216) : okS (a ++ b) = true :=
  okS_mk (by rw [str_len_append]; exact h) (strOk_append (okS_ok h1) (okS_ok h2))
abbrev rAddQ (K : PySem.W.Frag) : R2 := fun x y H Q => ((∃ i j, x = .int i ∧ y = .int j ∧ Q (.int (i + j)) H) ∨ (∃ i j, x = .str i ∧ y = .str j ∧ i.length + j.length ≤ sizeLine ∧ Q (.str (i ++ j)) H)) ∨ (rCat x y H Q ∨ rCatA K x y H Q)
theorem op_addQ : OpR X (binaryOp .Add) (rAddQ X.K) := OpR.or (OpR.or op_add op_add_str) (OpR.or op_cat op_catA)
theorem od_add : OpD X c Wx (rAddQ X.K) (pur2 addD) := by
  intro W o σ H e m x y vx vy Q M rx ry h
  obtain ⟨d, hd, h⟩ := Post.fin h
  unfold addD at hd
  split at hd
  · cases hd
    cases rx
    cases ry
    exact .inl (.inl ⟨_, _, rfl, rfl, Post.here h M rfl⟩)
  · rename_i x y
    split at hd
    · rename_i hl
      cases hd
      obtain ⟨rfl, hx⟩ := rx
      obtain ⟨rfl, hy⟩ := ry
      exact .inl (.inr ⟨_, _, rfl, rfl, hl, Post.here h M ⟨rfl, okS_append hx hy hl⟩⟩)
    · cases hd
  · rename_i x y
    split at hd
    · rename_i hl
      cases hd
      obtain ⟨p, vs, rfl, hp, hzr1, r1⟩ := rx
      obtain ⟨q, ws, rfl, hq, hzr2, r2⟩ := ry
      refine .inr (.inl ⟨p, q, vs, ws, rfl, rfl, M.sub _ _ hp, M.sub _ _ hq, by rw [← r1.len, ← r2.len]; exact hl, fun n hn => Post.new h M hn ?_⟩)
      exact rep_lst (M.newP hn) (by rw [List.length_append]; exact hl) (r1.append r2)
    · cases hd
  · rename_i x y
    split at hd
    · rename_i hl
      cases hd
      obtain ⟨p, vs, rfl, hp, hzr1, r1⟩ := rx
      obtain ⟨q, ws, rfl, hq, hzr2, r2⟩ := ry
      refine .inr (.inr ⟨p, q, vs, ws, rfl, rfl, SqT.of (M.sub _ _ hp), SqT.of (M.sub _ _ hq), by rw [← r1.len, ← r2.len]; exact hl, fun z => ?_, fun _ z => ?_, fun _ _ n hn => Post.new h M hn (rep_tup (M.newP hn) (by rw [List.length_append]; exact hl) (r1.append r2))⟩)
      · have zx := r1.nil_iff.mp z
        subst zx
        exact Post.here h M ⟨q, ws, rfl, hq, hzr2, r2⟩
      · have zy := r2.nil_iff.mp z
        subst zy
        rw [List.append_nil] at h
        exact Post.here h M ⟨p, vs, rfl, hp, hzr1, r1⟩
    · cases hd
  · cases hd
theorem od_sub : OpD X c Wx (rI0 fun i j => .int (i - j)) (pur2 subD) := by
  intro W o σ H e m x y vx vy Q M rx ry h
  obtain ⟨d, hd, h⟩ := Post.fin h
  unfold subD at hd
  split at hd
  · cases hd
    cases rx
    cases ry
    exact ⟨_, _, rfl, rfl, Post.here h M rfl⟩
  · cases hd
abbrev rMulQ : R2 := fun x y H Q => rI CMul (fun i j => .int (i * j)) x y H Q ∨ rRep x y H Q
theorem op_mulQ : OpR X (binaryOp .Mult) rMulQ := OpR.or op_mul op_rep
theorem Reps.rep {K : PySem.W.Frag} {mg : Str → Option Value} {W : Wd} {l : List D} {vs : List V} (h : Reps K mg W l vs) : ∀ k : Nat, Reps K mg W (List.replicate k l).flatten (List.replicate k vs).flatten
  | 0 => rfl
  | k + 1 => by
    rw [List.replicate_succ, List.replicate_succ, List.flatten_cons, List.flatten_cons]
    exact h.append (Reps.rep h k)
theorem od_mul : OpD X c Wx rMulQ (pur2 mulD) := by
  intro W o σ H e m x y vx vy Q M rx ry h
  obtain ⟨d, hd, h⟩ := Post.fin h
  unfold mulD at hd
  split at hd
  · split at hd
    · rename_i hc
      cases hd
      cases rx
      cases ry
      exact .inl ⟨_, _, rfl, rfl, hc, Post.here h M rfl⟩
    · cases hd
  · rename_i x k
    split at hd
    · rename_i hc
      cases hd
      cases ry
      obtain ⟨p, vs, rfl, hp, hzr1, r1⟩ := rx
      refine .inr ⟨p, k, vs, rfl, rfl, M.sub _ _ hp, hc.1, hc.2.1, by rw [← r1.len]; exact hc.2.2, fun n hn => Post.new h M hn ?_⟩
      exact rep_lst (M.newP hn) (by rw [List.length_flatten, List.map_replicate, List.sum_replicate_nat, Nat.mul_comm]; exact hc.2.2) (r1.rep _)
    · cases hd
  · cases hd
theorem od_fdiv : OpD X c Wx (rI CDivW fun i j => .int (i / j)) (pur2 fdivD) := by
  intro W o σ H e m x y vx vy Q M rx ry h
  obtain ⟨d, hd, h⟩ := Post.fin h
  unfold fdivD at hd
  split at hd
  · split at hd
    · rename_i i j hc
      cases hd
      cases rx
      cases ry
      have h0 : j.natAbs ≠ 0 := by omega
      have h1 : j.natAbs.log2 < 9000 := Nat.lt_trans ((Nat.log2_lt h0).mpr (Nat.lt_of_lt_of_le (show j.natAbs < 2 ^ 30 by omega) (Nat.le_refl _))) (by decide)
      exact ⟨_, _, rfl, rfl, ⟨hc.1, h1⟩, Post.here h M rfl⟩
    · split at hd
      · rename_i hc
        cases hd
        cases rx
        cases ry
        exact ⟨_, _, rfl, rfl, hc, Post.here h M rfl⟩
      · cases hd
  · cases hd
theorem od_mod : OpD X c Wx (rI (fun _ j => j ≠ 0) fun i j => .int (i.fmod j)) (pur2 modD) := by
  intro W o σ H e m x y vx vy Q M rx ry h
  obtain ⟨d, hd, h⟩ := Post.fin h
  unfold modD at hd
  split at hd
  · split at hd
    · rename_i i j hc
      cases hd
      cases rx
      cases ry
      have e1 : i.fmod j = i % j := Int.fmod_eq_emod_of_nonneg i (by omega)
      exact ⟨_, _, rfl, rfl, by omega, Post.here h M (by show V.int (i.fmod j) = V.int (i % j); rw [e1])⟩
    · split at hd
      · cases hd
      · rename_i hc
        cases hd
        cases rx
        cases ry
        exact ⟨_, _, rfl, rfl, hc, Post.here h M rfl⟩
  · cases hd
theorem od_pow : OpD X c Wx (rI CPow fun i j => .int (i ^ j.toNat)) (pur2 powD) := by
  intro W o σ H e m x y vx vy Q M rx ry h
  obtain ⟨d, hd, h⟩ := Post.fin h
  unfold powD at hd
  split at hd
  · split at hd
    · rename_i hc
      cases hd
      cases rx
      cases ry
      exact ⟨_, _, rfl, rfl, hc, Post.here h M rfl⟩
    · cases hd
  · cases hd
def negD : D → Option D
  | .int i => some (.int (-i))
  | _ => none
theorem ud_neg : UnD X c Wx (rU fun i => .int (-i)) (pur1 negD) := by
  intro W o σ H e m x vx Q M rx h
  obtain ⟨d, hd, h⟩ := Post.fin h
  unfold negD at hd
  split at hd
  · cases hd
    cases rx
    exact ⟨_, rfl, Post.here h M rfl⟩
  · cases hd
theorem ee_add (ha : EE X c Wx a fa) (hb : EE X c Wx b fb) : EE X c Wx (.BinOp a .Add b pos) (x2 fa fb (pur2 addD)) := ee_op op_addQ od_add ha hb
theorem ee_sub (ha : EE X c Wx a fa) (hb : EE X c Wx b fb) : EE X c Wx (.BinOp a .Sub b pos) (x2 fa fb (pur2 subD)) := ee_op op_sub od_sub ha hb
theorem ee_mul (ha : EE X c Wx a fa) (hb : EE X c Wx b fb) : EE X c Wx (.BinOp a .Mult b pos) (x2 fa fb (pur2 mulD)) := ee_op op_mulQ od_mul ha hb
theorem ee_fdiv (ha : EE X c Wx a fa) (hb : EE X c Wx b fb) : EE X c Wx (.BinOp a .FloorDiv b pos) (x2 fa fb (pur2 fdivD)) := ee_op op_fdivW od_fdiv ha hb
theorem ee_mod (ha : EE X c Wx a fa) (hb : EE X c Wx b fb) : EE X c Wx (.BinOp a .Mod b pos) (x2 fa fb (pur2 modD)) := ee_op op_modN od_mod ha hb
theorem ee_pow (ha : EE X c Wx a fa) (hb : EE X c Wx b fb) : EE X c Wx (.BinOp a .Pow b pos) (x2 fa fb (pur2 powD)) := ee_op op_pow od_pow ha hb
theorem ee_neg (ha : EE X c Wx a fa) : EE X c Wx (.UnaryOp .USub a pos) (x1 fa (pur1 negD)) := ee_un un_neg ud_neg ha

/-! ### comparisons -/
def opEq : D → D → Option D := fun x y => (eqD x y).map .bl
def opNe : D → D → Option D := fun x y => (eqD x y).map fun b => .bl (!b)
theorem shaped_of {p : PyData} (h1 : p.canLay0 = true) (h2 : p.depth ≤ 60) : SeqAt.shaped p = true := Bool.and_eq_true_iff.mpr ⟨h1, decide_eq_true (by omega)⟩
theorem od_eq : OpD X c Wx (rEqD X.K) (pur2 opEq) := by
  intro W o σ H e m x y vx vy Q M rx ry h
  obtain ⟨d, hd, h⟩ := Post.fin h
  obtain ⟨r, hr, rfl⟩ := Option.map_eq_some_iff.mp hd
  obtain ⟨p, q, h1, h2, h3, h4, rfl⟩ := eqD_some hr
  obtain ⟨p1, p2⟩ := rx.dp M.sub h1
  obtain ⟨q1, q2⟩ := ry.dp M.sub h2
  exact ⟨p, q, p1, q1, shaped_of p2 h3, shaped_of q2 h4, Post.here h M rfl⟩
theorem od_ne : OpD X c Wx (rNeD X.K) (pur2 opNe) := by
  intro W o σ H e m x y vx vy Q M rx ry h
  obtain ⟨d, hd, h⟩ := Post.fin h
  obtain ⟨r, hr, rfl⟩ := Option.map_eq_some_iff.mp hd
  obtain ⟨p, q, h1, h2, h3, h4, rfl⟩ := eqD_some hr
  obtain ⟨p1, p2⟩ := rx.dp M.sub h1
  obtain ⟨q1, q2⟩ := ry.dp M.sub h2
  exact ⟨p, q, p1, q1, shaped_of p2 h3, shaped_of q2 h4, Post.here h M rfl⟩
theorem hu64 {X : Cx} (hu : X.A.units + 100 < cLine) : X.A.units + 64 < cLine := by omega
theorem ee_eq (hu : X.A.units + 100 < cLine) (ha : EE X c Wx a fa) (hb : EE X c Wx b fb) : EE X c Wx (.Compare a [.Eq] [b] pos) (x2 fa fb (pur2 opEq)) := ee_cmp (op_eqD (hu64 hu)) od_eq ha hb (nobehind _ (by decide) (by decide))
theorem ee_ne (hu : X.A.units + 100 < cLine) (ha : EE X c Wx a fa) (hb : EE X c Wx b fb) : EE X c Wx (.Compare a [.NotEq] [b] pos) (x2 fa fb (pur2 opNe)) := ee_cmp (op_neD (hu64 hu)) od_ne ha hb (nobehind _ (by decide) (by decide))
theorem et_eq (hu : X.A.units + 100 < cLine) (ha : EE X c Wx a fa) (hb : EE X c Wx b fb) : ET X c Wx (.Compare a [.Eq] [b] pos) (tOf (x2 fa fb (pur2 opEq))) := et_cmp (op_eqD (hu64 hu)) od_eq ha hb (nobehind _ (by decide) (by decide))
theorem et_ne (hu : X.A.units + 100 < cLine) (ha : EE X c Wx a fa) (hb : EE X c Wx b fb) : ET X c Wx (.Compare a [.NotEq] [b] pos) (tOf (x2 fa fb (pur2 opNe))) := et_cmp (op_neD (hu64 hu)) od_ne ha hb (nobehind _ (by decide) (by decide))
end
end Qd
end
section
set_option Elab.async false
set_option linter.all false
set_option autoImplicit false
set_option maxRecDepth 100000

namespace Qd
open PySem PySem.Spec PyProof.Rows L2
open PySem.PyData (strOk)
section
variable {X : Cx} {c : C0} {Wx : WX} {a b : Expr} {fa fb : FE} {ft fu : FT} {pos : Pos}

/-! ### order, in, is -/
def opLt : D → D → Option D
  | .int i, .int j => some (.bl (decide (i < j)))
  | .str x, .str y => some (.bl (decide (x.cps.toList < y.cps.toList)))
  | _, _ => none
def opLe : D → D → Option D
  | .int i, .int j => some (.bl (decide (i ≤ j)))
  | .str x, .str y => some (.bl (!decide (y.cps.toList < x.cps.toList)))
  | _, _ => none
def opGt : D → D → Option D
  | .int i, .int j => some (.bl (decide (j < i)))
  | .str x, .str y => some (.bl (decide (y.cps.toList < x.cps.toList)))
  | _, _ => none
def opGe : D → D → Option D
  | .int i, .int j => some (.bl (decide (j ≤ i)))
  | .str x, .str y => some (.bl (!decide (x.cps.toList < y.cps.toList)))
  | _, _ => none
theorem od_ord {r : Int → Int → Bool} {s : Str → Str → Bool} {f : D → D → Option D} (hf : ∀ x y d, f x y = some d → (∃ i j, x = .int i ∧ y = .int j ∧ d = .bl (r i j)) ∨ ∃ i j, x = .str i ∧ y = .str j ∧ d = .bl (s i j)) :
    OpD X c Wx (fun x y H Q => (∃ i j, x = .int i ∧ y = .int j ∧ Q (.bl (r i j)) H) ∨ ∃ i j, x = .str i ∧ y = .str j ∧ Q (.bl (s i j)) H) (pur2 f) := by
  intro W o σ H e m x y vx vy Q M rx ry h
  obtain ⟨d, hd, h⟩ := Post.fin h
  rcases hf x y d hd with ⟨i, j, rfl, rfl, rfl⟩ | ⟨i, j, rfl, rfl, rfl⟩
  · cases rx
    cases ry
    exact .inl ⟨i, j, rfl, rfl, Post.here h M rfl⟩
  · obtain ⟨rfl, _⟩ := rx
    obtain ⟨rfl, _⟩ := ry
    exact .inr ⟨i, j, rfl, rfl, Post.here h M rfl⟩
theorem opLt_is (x y d : D) (h : opLt x y = some d) : (∃ i j, x = .int i ∧ y = .int j ∧ d = .bl (decide (i < j))) ∨ ∃ i j : Str, x = .str i ∧ y = .str j ∧ d = .bl (decide (i.cps.toList < j.cps.toList)) := by
  unfold opLt at h
  split at h
  · cases h; exact .inl ⟨_, _, rfl, rfl, rfl⟩
  · cases h; exact .inr ⟨_, _, rfl, rfl, rfl⟩
  · cases h
theorem opLe_is (x y d : D) (h : opLe x y = some d) : (∃ i j, x = .int i ∧ y = .int j ∧ d = .bl (decide (i ≤ j))) ∨ ∃ i j : Str, x = .str i ∧ y = .str j ∧ d = .bl (!decide (j.cps.toList < i.cps.toList)) := by
  unfold opLe at h
  split at h
  · cases h; exact .inl ⟨_, _, rfl, rfl, rfl⟩
  · cases h; exact .inr ⟨_, _, rfl, rfl, rfl⟩
  · cases h
theorem opGt_is (x y d : D) (h : opGt x y = some d) : (∃ i j, x = .int i ∧ y = .int j ∧ d = .bl (decide (j < i))) ∨ ∃ i j : Str, x = .str i ∧ y = .str j ∧ d = .bl (decide (j.cps.toList < i.cps.toList)) := by
  unfold opGt at h
  split at h
  · cases h; exact .inl ⟨_, _, rfl, rfl, rfl⟩
  · cases h; exact .inr ⟨_, _, rfl, rfl, rfl⟩
  · cases h
theorem opGe_is (x y d : D) (h : opGe x y = some d) : (∃ i j, x = .int i ∧ y = .int j ∧ d = .bl (decide (j ≤ i))) ∨ ∃ i j : Str, x = .str i ∧ y = .str j ∧ d = .bl (!decide (i.cps.toList < j.cps.toList)) := by
  unfold opGe at h
  split at h
  · cases h; exact .inl ⟨_, _, rfl, rfl, rfl⟩
  · cases h; exact .inr ⟨_, _, rfl, rfl, rfl⟩
  · cases h
theorem ee_lt (ha : EE X c Wx a fa) (hb : EE X c Wx b fb) : EE X c Wx (.Compare a [.Lt] [b] pos) (x2 fa fb (pur2 opLt)) := ee_cmp (OpR.or op_lt op_lt_str) (od_ord opLt_is) ha hb (nobehind _ (by decide) (by decide))
theorem ee_le (ha : EE X c Wx a fa) (hb : EE X c Wx b fb) : EE X c Wx (.Compare a [.LtE] [b] pos) (x2 fa fb (pur2 opLe)) := ee_cmp (OpR.or op_le op_le_str) (od_ord opLe_is) ha hb (nobehind _ (by decide) (by decide))
theorem ee_gt (ha : EE X c Wx a fa) (hb : EE X c Wx b fb) : EE X c Wx (.Compare a [.Gt] [b] pos) (x2 fa fb (pur2 opGt)) := ee_cmp (OpR.or op_gt op_gt_str) (od_ord opGt_is) ha hb (nobehind _ (by decide) (by decide))
theorem ee_ge (ha : EE X c Wx a fa) (hb : EE X c Wx b fb) : EE X c Wx (.Compare a [.GtE] [b] pos) (x2 fa fb (pur2 opGe)) := ee_cmp (OpR.or op_ge op_ge_str) (od_ord opGe_is) ha hb (nobehind _ (by decide) (by decide))
theorem et_lt (ha : EE X c Wx a fa) (hb : EE X c Wx b fb) : ET X c Wx (.Compare a [.Lt] [b] pos) (tOf (x2 fa fb (pur2 opLt))) := et_cmp (OpR.or op_lt op_lt_str) (od_ord opLt_is) ha hb (nobehind _ (by decide) (by decide))
theorem et_le (ha : EE X c Wx a fa) (hb : EE X c Wx b fb) : ET X c Wx (.Compare a [.LtE] [b] pos) (tOf (x2 fa fb (pur2 opLe))) := et_cmp (OpR.or op_le op_le_str) (od_ord opLe_is) ha hb (nobehind _ (by decide) (by decide))
theorem et_gt (ha : EE X c Wx a fa) (hb : EE X c Wx b fb) : ET X c Wx (.Compare a [.Gt] [b] pos) (tOf (x2 fa fb (pur2 opGt))) := et_cmp (OpR.or op_gt op_gt_str) (od_ord opGt_is) ha hb (nobehind _ (by decide) (by decide))
theorem et_ge (ha : EE X c Wx a fa) (hb : EE X c Wx b fb) : ET X c Wx (.Compare a [.GtE] [b] pos) (tOf (x2 fa fb (pur2 opGe))) := et_cmp (OpR.or op_ge op_ge_str) (od_ord opGe_is) ha hb (nobehind _ (by decide) (by decide))

/-- in a list, in a tuple, a sign in a text -/
abbrev rInQ (K : PySem.W.Frag) (neg : Bool) : R2 := fun x y H Q => (∃ d ds, Dp K H x d ∧ (Dp K H y (.list ds) ∨ Dp K H y (.tuple ds)) ∧ d.canLay0 = true ∧ PyData.canLayAll0 ds = true ∧ d.depth ≤ 60 ∧ Q (.bl (if neg then !(ds.any fun z => PyData.eqv z d) else ds.any fun z => PyData.eqv z d)) H) ∨
  ∃ (k : Nat) (z : Str), x = .str ⟨#[k]⟩ ∧ y = .str z ∧ Q (.bl (if neg then !(decide (k ∈ z.cps.toList)) else decide (k ∈ z.cps.toList))) H
theorem room_in60 {A : Around} {xs : List PyData} {d : PyData} (hd : d.depth ≤ 60) (hu : A.units + 100 < cLine) : A.units + 1 + min (PyData.depthAll xs) d.depth < cLine := by
  have h2 : min (PyData.depthAll xs) d.depth ≤ d.depth := Nat.min_le_right _ _
  omega
theorem op_inQ (hu : X.A.units + 100 < cLine) : OpR X (compareOp .In) (rInQ X.K false) := by
  intro pins s σ H x y v u Q I rx ry h
  rcases h with ⟨d, ds, hd, hds, l1, l2, dp, q⟩ | h
  · obtain ⟨as, r1⟩ := Dp.reads I d x v hd rx
    rcases hds with hds | hds
    · obtain ⟨bs, r2⟩ := Dp.reads I (.list ds) y u hds ry
      exact SeqAt.in_list_reads r2 r1 l2 l1 (room_in60 dp hu) ⟨.bl _, H, I, rfl, q⟩
    · obtain ⟨bs, r2⟩ := Dp.reads I (.tuple ds) y u hds ry
      exact SeqAt.in_tuple_reads r2 r1 l2 l1 (room_in60 dp hu) ⟨.bl _, H, I, rfl, q⟩
  · exact op_in_sign pins s σ H x y v u Q I rx ry h
theorem op_niQ (hu : X.A.units + 100 < cLine) : OpR X (compareOp .NotIn) (rInQ X.K true) := by
  intro pins s σ H x y v u Q I rx ry h
  rcases h with ⟨d, ds, hd, hds, l1, l2, dp, q⟩ | h
  · obtain ⟨as, r1⟩ := Dp.reads I d x v hd rx
    rcases hds with hds | hds
    · obtain ⟨bs, r2⟩ := Dp.reads I (.list ds) y u hds ry
      exact SeqAt.notIn_list_reads r2 r1 l2 l1 (room_in60 dp hu) ⟨.bl _, H, I, rfl, q⟩
    · obtain ⟨bs, r2⟩ := Dp.reads I (.tuple ds) y u hds ry
      exact SeqAt.notIn_tuple_reads r2 r1 l2 l1 (room_in60 dp hu) ⟨.bl _, H, I, rfl, q⟩
  · exact op_notIn_sign pins s σ H x y v u Q I rx ry h
def opIn : D → D → Option D := fun x y => (inD x y).map .bl
def opNi : D → D → Option D := fun x y => (inD x y).map fun b => .bl (!b)
theorem dp_seq {W : Wd} {H : Hp} {y : D} {vy : V} {l : List D} {ps : List PyData} (hs : ∀ a o, W.P a = some o → H a = some o) (ry : Rep X.K X.mg W y vy) (hy : y = .tup l ∨ y = .lst l) (hp : pdOs l = some ps) :
    (Dp X.K H vy (.list ps) ∨ Dp X.K H vy (.tuple ps)) ∧ PyData.canLayAll0 ps = true := by
  rcases hy with rfl | rfl
  · obtain ⟨p, vs, rfl, hP, hzr, r⟩ := ry
    obtain ⟨q1, q2⟩ := r.dp hs hp
    exact ⟨.inr (.tup (SqT.of (hs _ _ hP)) q1), q2⟩
  · obtain ⟨p, vs, rfl, hP, hzr, r⟩ := ry
    obtain ⟨q1, q2⟩ := r.dp hs hp
    exact ⟨.inl (.lst (SqL.of (hs _ _ hP)) q1), q2⟩
theorem od_in : OpD X c Wx (rInQ X.K false) (pur2 opIn) := by
  intro W o σ H e m x y vx vy Q M rx ry h
  obtain ⟨d, hd, h⟩ := Post.fin h
  obtain ⟨r, hr, rfl⟩ := Option.map_eq_some_iff.mp hd
  rcases inD_seq hr with ⟨l, p, ps, hy, h1, h2, h3, rfl⟩ | ⟨k, z, rfl, rfl, rfl⟩
  · obtain ⟨p1, p2⟩ := rx.dp M.sub h1
    obtain ⟨q1, q2⟩ := dp_seq M.sub ry hy h2
    exact .inl ⟨p, ps, p1, q1, p2, q2, h3, Post.here h M rfl⟩
  · obtain ⟨rfl, _⟩ := rx
    obtain ⟨rfl, _⟩ := ry
    exact .inr ⟨k, z, rfl, rfl, Post.here h M rfl⟩
theorem od_ni : OpD X c Wx (rInQ X.K true) (pur2 opNi) := by
  intro W o σ H e m x y vx vy Q M rx ry h
  obtain ⟨d, hd, h⟩ := Post.fin h
  obtain ⟨r, hr, rfl⟩ := Option.map_eq_some_iff.mp hd
  rcases inD_seq hr with ⟨l, p, ps, hy, h1, h2, h3, rfl⟩ | ⟨k, z, rfl, rfl, rfl⟩
  · obtain ⟨p1, p2⟩ := rx.dp M.sub h1
    obtain ⟨q1, q2⟩ := dp_seq M.sub ry hy h2
    exact .inl ⟨p, ps, p1, q1, p2, q2, h3, Post.here h M rfl⟩
  · obtain ⟨rfl, _⟩ := rx
    obtain ⟨rfl, _⟩ := ry
    exact .inr ⟨k, z, rfl, rfl, Post.here h M rfl⟩
theorem ee_in (hu : X.A.units + 100 < cLine) (ha : EE X c Wx a fa) (hb : EE X c Wx b fb) (hm : behindInMarks .In b = false := by rfl) : EE X c Wx (.Compare a [.In] [b] pos) (x2 fa fb (pur2 opIn)) := ee_cmp (op_inQ hu) od_in ha hb hm
theorem ee_ni (hu : X.A.units + 100 < cLine) (ha : EE X c Wx a fa) (hb : EE X c Wx b fb) (hm : behindInMarks .NotIn b = false := by rfl) : EE X c Wx (.Compare a [.NotIn] [b] pos) (x2 fa fb (pur2 opNi)) := ee_cmp (op_niQ hu) od_ni ha hb hm
theorem et_in (hu : X.A.units + 100 < cLine) (ha : EE X c Wx a fa) (hb : EE X c Wx b fb) (hm : behindInMarks .In b = false := by rfl) : ET X c Wx (.Compare a [.In] [b] pos) (tOf (x2 fa fb (pur2 opIn))) := et_cmp (op_inQ hu) od_in ha hb hm
theorem et_ni (hu : X.A.units + 100 < cLine) (ha : EE X c Wx a fa) (hb : EE X c Wx b fb) (hm : behindInMarks .NotIn b = false := by rfl) : ET X c Wx (.Compare a [.NotIn] [b] pos) (tOf (x2 fa fb (pur2 opNi))) := et_cmp (op_niQ hu) od_ni ha hb hm

def isNon : D → Bool
  | .non => true
  | _ => false
theorem isNon_rep {K : PySem.W.Frag} {mg : Str → Option Value} {W : Wd} {d : D} {v : V} (r : Rep K mg W d v) : decide (v = V.non) = isNon d := by
  cases d with
  | non => cases (show v = V.non from r); rfl
  | bl b => cases (show v = V.bl b from r); rfl
  | int i => cases (show v = V.int i from r); rfl
  | str s => obtain ⟨rfl, _⟩ := (show v = V.str s ∧ _ from r); rfl
  | ty n => cases (show v = V.ty n from r); rfl
  | glo x => obtain ⟨a, rfl, _⟩ := r; rfl
  | tup l => obtain ⟨a, vs, rfl, _⟩ := r; rfl
  | lst l => obtain ⟨a, vs, rfl, _⟩ := r; rfl
  | scr l => obtain ⟨a, rfl, _⟩ := r; rfl
  | dic ks ds => obtain ⟨a, vs, rfl, _⟩ := r; rfl
  | ins n ns ds => obtain ⟨a, C, dx, vs, rfl, _⟩ := r; rfl
  | exc _ _ _ => exact r.elim
  | obj m => obtain ⟨a, rfl, _⟩ := r; rfl
def opIs : D → D → Option D
  | x, .non => some (.bl (isNon x))
  | _, _ => none
def opIsn : D → D → Option D
  | x, .non => some (.bl (!isNon x))
  | _, _ => none
theorem od_is : OpD X c Wx (fun x y H Q => y = .non ∧ Q (.bl (decide (x = .non))) H) (pur2 opIs) := by
  intro W o σ H e m x y vx vy Q M rx ry h
  obtain ⟨d, hd, h⟩ := Post.fin h
  unfold opIs at hd
  split at hd
  · cases hd
    exact ⟨ry, Post.here h M (by rw [isNon_rep rx]; exact rfl)⟩
  · cases hd
theorem od_isn : OpD X c Wx (fun x y H Q => y = .non ∧ Q (.bl (!decide (x = .non))) H) (pur2 opIsn) := by
  intro W o σ H e m x y vx vy Q M rx ry h
  obtain ⟨d, hd, h⟩ := Post.fin h
  unfold opIsn at hd
  split at hd
  · cases hd
    exact ⟨ry, Post.here h M (by rw [isNon_rep rx]; exact rfl)⟩
  · cases hd
theorem ee_is (ha : EE X c Wx a fa) (hb : EE X c Wx b fb) : EE X c Wx (.Compare a [.Is] [b] pos) (x2 fa fb (pur2 opIs)) := ee_cmp op_isN od_is ha hb (nobehind _ (by decide) (by decide))
theorem ee_isn (ha : EE X c Wx a fa) (hb : EE X c Wx b fb) : EE X c Wx (.Compare a [.IsNot] [b] pos) (x2 fa fb (pur2 opIsn)) := ee_cmp op_notN od_isn ha hb (nobehind _ (by decide) (by decide))
theorem et_is (ha : EE X c Wx a fa) (hb : EE X c Wx b fb) : ET X c Wx (.Compare a [.Is] [b] pos) (tOf (x2 fa fb (pur2 opIs))) := et_cmp op_isN od_is ha hb (nobehind _ (by decide) (by decide))
theorem et_isn (ha : EE X c Wx a fa) (hb : EE X c Wx b fb) : ET X c Wx (.Compare a [.IsNot] [b] pos) (tOf (x2 fa fb (pur2 opIsn))) := et_cmp op_notN od_isn ha hb (nobehind _ (by decide) (by decide))

/-! ### tests -/
def tAn (t u : FT) : FT := fun e m => (t e m).bind fun k e m => if k then u e m else .ok false e m
def tOr (t u : FT) : FT := fun e m => (t e m).bind fun k e m => if k then .ok true e m else u e m
def tNt (t : FT) : FT := fun e m => (t e m).bind fun k e m => .ok (!k) e m
theorem et_val (ha : EE X c Wx a fa) (he : ∀ whole, isTrue a X.env whole = (do let v ← whole; standAt a.pos; holding [v] (truthy v)) := by intro _; rfl) : ET X c Wx a (tOf fa) :=
  (pt_val ha he).impQ fun σ H Q ⟨W, o, e, m, M, h⟩ => ⟨W, o, e, m, M, (Post.bind h).mono fun v H1 ⟨W1, o1, e1, m1, d, u1, M1, r1, h1⟩ =>
    let ⟨k, hv, _, q⟩ := post_asB M1 r1 h1
    ⟨k, hv, q⟩⟩
theorem ew_of (h : EW X c Wx a ft) : ET X c Wx a ft := PW.pt h
theorem ew_and1 (ha : ET X c Wx a ft) : EW X c Wx (.BoolOp .And [a] pos) ft := pw_and1 ha
theorem ew_or1 (ha : ET X c Wx a ft) : EW X c Wx (.BoolOp .Or [a] pos) ft := pw_or1 ha
theorem ew_and {x : Expr} {rest : List Expr} (ha : ET X c Wx a ft) (hb : EW X c Wx (.BoolOp .And (x :: rest) pos) fu) : EW X c Wx (.BoolOp .And (a :: x :: rest) pos) (tAn ft fu) :=
  (pw_and ha hb).impQ fun σ H Q ⟨W, o, e, m, M, h⟩ => ⟨W, o, e, m, M, (Post.bind h).mono fun v H1 ⟨W1, o1, e1, m1, d, u1, M1, r1, h1⟩ => by
    cases r1
    cases v with
    | true => exact ⟨W1, o1, e1, m1, M1, h1⟩
    | false => exact Post.here (Rp := RpB) h1 M1 rfl⟩
theorem ew_or {x : Expr} {rest : List Expr} (ha : ET X c Wx a ft) (hb : EW X c Wx (.BoolOp .Or (x :: rest) pos) fu) : EW X c Wx (.BoolOp .Or (a :: x :: rest) pos) (tOr ft fu) :=
  (pw_or ha hb).impQ fun σ H Q ⟨W, o, e, m, M, h⟩ => ⟨W, o, e, m, M, (Post.bind h).mono fun v H1 ⟨W1, o1, e1, m1, d, u1, M1, r1, h1⟩ => by
    cases r1
    cases v with
    | true => exact Post.here (Rp := RpB) h1 M1 rfl
    | false => exact ⟨W1, o1, e1, m1, M1, h1⟩⟩
theorem et_not (ha : ET X c Wx a ft) : ET X c Wx (.UnaryOp .Not a pos) (tNt ft) :=
  (pt_not ha).impQ fun σ H Q ⟨W, o, e, m, M, h⟩ => ⟨W, o, e, m, M, (Post.bind h).mono fun v H1 ⟨W1, o1, e1, m1, d, u1, M1, r1, h1⟩ => by
    cases r1
    exact Post.here (Rp := RpB) h1 M1 rfl⟩
/-- bools as values: and, or, not -/
def vAn (f g : FE) : FE := fun e m => (f e m).bind fun d e m => match d with
  | .bl k => if k then g e m else .ok (.bl false) e m
  | _ => .no
def vOr (f g : FE) : FE := fun e m => (f e m).bind fun d e m => match d with
  | .bl k => if k then .ok (.bl true) e m else g e m
  | _ => .no
def vNt : D → Option D
  | .bl k => some (.bl (!k))
  | _ => none
theorem ee_one {op : BoolOp} (ha : EE X c Wx a fa) : EE X c Wx (.BoolOp op [a] pos) fa := pe_one ha
theorem ee_and {x : Expr} {rest : List Expr} (ha : EE X c Wx a fa) (hb : EE X c Wx (.BoolOp .And (x :: rest) pos) fb) : EE X c Wx (.BoolOp .And (a :: x :: rest) pos) (vAn fa fb) :=
  (pe_and ha hb).impQ fun σ H Q ⟨W, o, e, m, M, h⟩ => ⟨W, o, e, m, M, (Post.bind h).mono fun v H1 ⟨W1, o1, e1, m1, d, u1, M1, r1, h1⟩ => by
    cases d with
    | bl k =>
      refine ⟨k, r1, ?_⟩
      cases k with
      | true => exact ⟨W1, o1, e1, m1, M1, h1⟩
      | false => exact Post.here h1 M1 rfl
    | _ => exact h1.elim⟩
theorem ee_or {x : Expr} {rest : List Expr} (ha : EE X c Wx a fa) (hb : EE X c Wx (.BoolOp .Or (x :: rest) pos) fb) : EE X c Wx (.BoolOp .Or (a :: x :: rest) pos) (vOr fa fb) :=
  (pe_or ha hb).impQ fun σ H Q ⟨W, o, e, m, M, h⟩ => ⟨W, o, e, m, M, (Post.bind h).mono fun v H1 ⟨W1, o1, e1, m1, d, u1, M1, r1, h1⟩ => by
    cases d with
    | bl k =>
      refine ⟨k, r1, ?_⟩
      cases k with
      | true => exact Post.here h1 M1 rfl
      | false => exact ⟨W1, o1, e1, m1, M1, h1⟩
    | _ => exact h1.elim⟩
theorem ee_not (ha : EE X c Wx a fa) : EE X c Wx (.UnaryOp .Not a pos) (x1 fa (pur1 vNt)) :=
  (pe_not ha).impQ fun σ H Q ⟨W, o, e, m, M, h⟩ => ⟨W, o, e, m, M, (Post.bind h).mono fun v H1 ⟨W1, o1, e1, m1, d, u1, M1, r1, h1⟩ => by
    obtain ⟨d', hd, h1⟩ := Post.fin h1
    cases d with
    | bl k =>
      cases hd
      exact ⟨k, r1, Post.here h1 M1 rfl⟩
    | _ => cases hd⟩
def xIf (t : FT) (f g : FE) : FE := fun e m => (t e m).bind fun k e m => if k then f e m else g e m
theorem ee_if {t : Expr} (ht : ET X c Wx t ft) (ha : EE X c Wx a fa) (hb : EE X c Wx b fb) : EE X c Wx (.IfExp t a b pos) (xIf ft fa fb) :=
  (pe_ifExp ht ha hb).impQ fun σ H Q ⟨W, o, e, m, M, h⟩ => ⟨W, o, e, m, M, (Post.bind h).mono fun v H1 ⟨W1, o1, e1, m1, d, u1, M1, r1, h1⟩ => by
    cases r1
    cases v with
    | true => exact ⟨W1, o1, e1, m1, M1, h1⟩
    | false => exact ⟨W1, o1, e1, m1, M1, h1⟩⟩
/-- a < b < c -/
def xChn (f g h : FE) (op1 op2 : D → D → Option D) : FE := fun e m => (f e m).bind fun x e m => (g e m).bind fun y e m => match op1 x y with
  | some (.bl true) => (h e m).bind fun z e m => fin (op2 y z) e m
  | some (.bl false) => .ok (.bl false) e m
  | _ => .no
theorem ee_chain {op op' : CmpOp} {r r' : R2} {g g' : D → D → Option D} {z : Expr} {fz : FE} (ho : OpR X (compareOp op) r) (ho' : OpR X (compareOp op') r') (hg : OpD X c Wx r (pur2 g)) (hg' : OpD X c Wx r' (pur2 g'))
    (ha : EE X c Wx a fa) (hb : EE X c Wx b fb) (hz : EE X c Wx z fz) (hm : lastMarks [op, op'] [b, z] = false := by rfl) : EE X c Wx (.Compare a [op, op'] [b, z] pos) (xChn fa fb fz g g') :=
  (pe_chain ho ho' ha hb hz hm).impQ fun σ H Q ⟨W, o, e, m, M, h⟩ => by
    unfold xChn at h
    refine ⟨W, o, e, m, M, (Post.bind (Rp := Rep X.K X.mg) h).mono fun v H1 ⟨W1, o1, e1, m1, d1, u1, M1, r1, h1⟩ => ⟨W1, o1, e1, m1, M1, (Post.bind h1).mono fun v2 H2 ⟨W2, o2, e2, m2, d2, u2, M2, r2, h2⟩ => ?_⟩⟩
    split at h2
    · rename_i hop
      refine hg W2 o2 σ H2 e2 m2 d1 d2 v v2 _ M2 (r1.up u2) r2 ?_
      show Post X.K X.mg c W2 σ (Rep X.K X.mg) _ Wx (fin (g d1 d2) e2 m2)
      rw [hop]
      exact fun W3 o3 H3 v3 u3 M3 r3 => ⟨true, r3, ⟨W3, o3, e2, m2, M3, (Post.bind (Post.up u3 h2)).mono fun v4 H4 ⟨W4, o4, e4, m4, d4, u4, M4, r4, h4⟩ => hg' W4 o4 σ H4 e4 m4 d2 d4 v2 v4 Q M4 ((r2.up u3).up u4) r4 h4⟩⟩
    · rename_i hop
      refine hg W2 o2 σ H2 e2 m2 d1 d2 v v2 _ M2 (r1.up u2) r2 ?_
      show Post X.K X.mg c W2 σ (Rep X.K X.mg) _ Wx (fin (g d1 d2) e2 m2)
      rw [hop]
      exact fun W3 o3 H3 v3 u3 M3 r3 => ⟨false, r3, h2 W3 o3 H3 (.bl false) u3 M3 rfl⟩
    · exact h2.elim
theorem et_chain {op op' : CmpOp} {r r' : R2} {g g' : D → D → Option D} {z : Expr} {fz : FE} (ho : OpR X (compareOp op) r) (ho' : OpR X (compareOp op') r') (hg : OpD X c Wx r (pur2 g)) (hg' : OpD X c Wx r' (pur2 g'))
    (ha : EE X c Wx a fa) (hb : EE X c Wx b fb) (hz : EE X c Wx z fz) (hm : lastMarks [op, op'] [b, z] = false := by rfl) : ET X c Wx (.Compare a [op, op'] [b, z] pos) (tOf (xChn fa fb fz g g')) :=
  (pt_chain ho ho' ha hb hz hm).impQ fun σ H Q ⟨W, o, e, m, M, h⟩ => by
    unfold tOf xChn at h
    have h0 := Post.bind (Rp := Rep X.K X.mg) h
    refine ⟨W, o, e, m, M, (Post.bind (Rp := Rep X.K X.mg) h0).mono fun v H1 ⟨W1, o1, e1, m1, d1, u1, M1, r1, h1⟩ => ⟨W1, o1, e1, m1, M1, (Post.bind h1).mono fun v2 H2 ⟨W2, o2, e2, m2, d2, u2, M2, r2, h2⟩ => ?_⟩⟩
    split at h2
    · rename_i hop
      refine hg W2 o2 σ H2 e2 m2 d1 d2 v v2 _ M2 (r1.up u2) r2 ?_
      show Post X.K X.mg c W2 σ (Rep X.K X.mg) _ Wx (fin (g d1 d2) e2 m2)
      rw [hop]
      refine fun W3 o3 H3 v3 u3 M3 r3 => ⟨true, r3, ⟨W3, o3, e2, m2, M3, (Post.bind (Post.up u3 h2)).mono fun v4 H4 ⟨W4, o4, e4, m4, d4, u4, M4, r4, h4⟩ => ?_⟩⟩
      refine hg' W4 o4 σ H4 e4 m4 d2 d4 v2 v4 _ M4 ((r2.up u3).up u4) r4 (h4.mono fun v5 H5 ⟨W5, o5, e5, m5, d5, u5, M5, r5, h5⟩ => ?_)
      obtain ⟨k, hv, _, q⟩ := post_asB M5 r5 h5
      exact ⟨k, hv, q⟩
    · rename_i hop
      refine hg W2 o2 σ H2 e2 m2 d1 d2 v v2 _ M2 (r1.up u2) r2 ?_
      show Post X.K X.mg c W2 σ (Rep X.K X.mg) _ Wx (fin (g d1 d2) e2 m2)
      rw [hop]
      refine fun W3 o3 H3 v3 u3 M3 r3 => ⟨false, r3, ?_⟩
      obtain ⟨W5, o5, e5, m5, d5, u5, M5, r5, h5⟩ := h2 W3 o3 H3 (.bl false) u3 M3 rfl
      obtain ⟨k, hv, _, q⟩ := post_asB M5 r5 h5
      cases hv
      exact ⟨false, rfl, q⟩
    · exact h2.elim
end
end Qd
end
section
set_option Elab.async false
set_option linter.all false
set_option autoImplicit false
set_option maxRecDepth 100000

namespace Qd
open PySem PySem.Spec PyProof.Rows L2
open PySem.PyData (strOk)

/-! ### dicts by flat keys -/
def keyK : D → Option Key
  | .int i => some (.inl i)
  | .str s => some (.inr s)
  | _ => none
def dlook : List D → List D → Key → Option D
  | k :: ks, v :: vs, q => if keyK k = some q then some v else dlook ks vs q
  | _, _, _ => none
theorem keyK_keyD (k : Key) : keyK (keyD k) = some k := by cases k <;> rfl
theorem valV_cons {k q : Key} {v : V} {r : List (Key × V)} : valV ((k, v) :: r) q = if k = q then some v else valV r q := by
  unfold valV
  rw [List.find?_cons]
  by_cases h : k = q
  · rw [if_pos h, decide_eq_true h]
    rfl
  · rw [if_neg h, decide_eq_false h]
section
variable {K : PySem.W.Frag} {mg : Str → Option Value} {W : Wd}
theorem dlook_rep : ∀ {kvs : List (Key × V)} {ds : List D} {q : Key}, Reps K mg W ds (kvs.map (·.2)) →
    (dlook (kvs.map fun p => keyD p.1) ds q = none ∧ valV kvs q = none) ∨ ∃ d v, dlook (kvs.map fun p => keyD p.1) ds q = some d ∧ valV kvs q = some v ∧ Rep K mg W d v
  | [], ds, q, h => .inl ⟨by cases ds <;> rfl, rfl⟩
  | (k, v) :: r, ds, q, h => by
    cases ds with
    | nil => exact nomatch (show v :: r.map (·.2) = [] from h)
    | cons d ds =>
      obtain ⟨v', r', e, h1, h2⟩ := h
      have e1 : v :: r.map (·.2) = v' :: r' := e
      cases e1
      rw [valV_cons]
      show ((if keyK (keyD k) = some q then some d else dlook (r.map fun p => keyD p.1) ds q) = none ∧ _) ∨ ∃ d' v', (if keyK (keyD k) = some q then some d else dlook (r.map fun p => keyD p.1) ds q) = some d' ∧ _ ∧ _
      rw [keyK_keyD]
      by_cases hk : k = q
      · subst hk
        rw [if_pos rfl, if_pos rfl]
        exact .inr ⟨d, v, rfl, rfl, h1⟩
      · rw [if_neg hk, if_neg (fun z => hk (Option.some.inj z))]
        exact dlook_rep h2
theorem rep_key {k : D} {q : Key} {v : V} (h : keyK k = some q) (r : Rep K mg W k v) : v = kV q := by
  cases k with
  | int i => cases h; exact r
  | str s => cases h; exact r.1
  | _ => cases h
theorem Reps.atI {l : List D} {vs : List V} {i : Int} {d : D} (h : Reps K mg W l vs) (e : atI l i = some d) : ∃ v, L2.atI vs i = some v ∧ Rep K mg W d v := by
  unfold L2.atI at e ⊢
  rw [← h.len]
  cases q : ixN l.length i with
  | none => rw [q] at e; cases e
  | some j =>
    rw [q] at e
    exact h.get e
end
theorem atI_map {α β : Type} (f : α → β) (l : List α) (i : Int) : L2.atI (l.map f) i = (L2.atI l i).map f := by
  unfold L2.atI
  rw [List.length_map]
  cases ixN l.length i with
  | none => rfl
  | some j => exact List.getElem?_map ..

section
variable {X : Cx} {c : C0} {Wx : WX} {a b : Expr} {fa fb : FE} {ft fu : FT} {pos : Pos}

/-! ### subscripts -/
abbrev rIxQ (K : PySem.W.Frag) : R2 := fun x y H Q => rIx K x y H Q ∨ ∃ a v, x = .ref a ∧ DGet H a y (some v) ∧ Q v H
theorem ix_dict (hu : X.A.units + 100 < cLine) : IxR X (fun x y H Q => ∃ a v, x = .ref a ∧ DGet H a y (some v) ∧ Q v H) := by
  intro value slice pins s σ H x y v u Q I rx ry h hs
  obtain ⟨p, z, rfl, g, q⟩ := h
  obtain rfl : v = Value.ref p := rx
  exact tail_any (dict_typeIs I g) PySem.F.slot_dict_getitem.lookup (d_getItem (by omega) I g ry fun w' s3 I3 rw' => ⟨z, H, I3, rw', q⟩) hs
theorem ix_Q (hu : X.A.units + 100 < cLine) : IxR X (rIxQ X.K) := IxR.or ix_seq (ix_dict hu)
def ixG : D → D → Env → MS → R D := fun x y e m => match x with
  | .tup l => match y with
    | .int i => fin (atI l i) e m
    | _ => .no
  | .lst l => match y with
    | .int i => fin (atI l i) e m
    | _ => .no
  | .scr l => match y with
    | .int i => fin ((atI l i).map .int) e m
    | _ => .no
  | .str z => match y with
    | .int i => fin ((atI z.cps.toList i).map fun k => .str ⟨#[k]⟩) e m
    | _ => .no
  | .obj j => match y with
    | .int i => match m[j]? with
      | some (.lst l) => fin (atI l i) e m
      | _ => .no
    | _ => .no
  | .dic ks vs => match keyK y with
    | some q => fin (dlook ks vs q) e m
    | none => .no
  | _ => .no
theorem okS_sign {z : Str} {k : Nat} (h : okS z = true) (hk : k ∈ z.cps.toList) : okS ⟨#[k]⟩ = true :=
  okS_mk (by show (#[k] : Array Nat).size ≤ _; simp) (strOk_sub (okS_ok h) fun x hx => by
    have e : x = k := by simpa using hx
    rw [e]
    exact hk)
theorem atI_mem {α : Type} {l : List α} {i : Int} {v : α} (h : L2.atI l i = some v) : v ∈ l := by
  obtain ⟨j, _, h2, _⟩ := atI_get h
  exact List.mem_of_getElem? h2
theorem od_ix : OpD X c Wx (rIxQ X.K) ixG := by
  intro W o σ H e m x y vx vy Q M rx ry h
  unfold ixG at h
  cases x with
  | tup l =>
    cases y with
    | int i =>
      obtain ⟨d, hd, h⟩ := Post.fin h
      cases ry
      obtain ⟨p, vs, rfl, hp, hzr, r⟩ := rx
      obtain ⟨v, hv, rv⟩ := r.atI hd
      exact .inl (.inr (.inl ⟨p, vs, i, v, rfl, rfl, SqT.of (M.sub _ _ hp), hv, Post.here h M rv⟩))
    | _ => exact h.elim
  | lst l =>
    cases y with
    | int i =>
      obtain ⟨d, hd, h⟩ := Post.fin h
      cases ry
      obtain ⟨p, vs, rfl, hp, hzr, r⟩ := rx
      obtain ⟨v, hv, rv⟩ := r.atI hd
      exact .inl (.inl ⟨p, vs, i, v, rfl, rfl, SqL.of (M.sub _ _ hp), hv, Post.here h M rv⟩)
    | _ => exact h.elim
  | scr l =>
    cases y with
    | int i =>
      obtain ⟨d, hd, h⟩ := Post.fin h
      cases ry
      obtain ⟨p, rfl, hp, hz⟩ := rx
      obtain ⟨n, hn, rfl⟩ := Option.map_eq_some_iff.mp hd
      exact .inl (.inl ⟨p, l.map V.int, i, .int n, rfl, rfl, sql_up M.sub hp, by rw [atI_map, hn]; rfl, Post.here h M rfl⟩)
    | _ => exact h.elim
  | str z =>
    cases y with
    | int i =>
      obtain ⟨d, hd, h⟩ := Post.fin h
      cases ry
      obtain ⟨rfl, hz⟩ := rx
      obtain ⟨k, hk, rfl⟩ := Option.map_eq_some_iff.mp hd
      exact .inl (.inr (.inr ⟨z, i, k, rfl, rfl, okS_len hz, hk, Post.here h M ⟨rfl, okS_sign hz (atI_mem hk)⟩⟩))
    | _ => exact h.elim
  | obj j =>
    cases y with
    | int i =>
      obtain ⟨p, rfl, hp⟩ := rx
      cases ry
      simp only at h
      split at h
      · rename_i l hm
        obtain ⟨d, hd, h⟩ := Post.fin h
        obtain ⟨vs, hH, r⟩ := M.ms.2 j _ p hm hp
        obtain ⟨v, hv, rv⟩ := r.atI hd
        exact .inl (.inl ⟨p, vs, i, v, rfl, rfl, SqL.of hH, hv, Post.here h M rv⟩)
      · exact h.elim
    | _ => exact h.elim
  | dic ks ds =>
    simp only at h
    split at h
    · rename_i q hq
      obtain ⟨d, hd, h⟩ := Post.fin h
      obtain ⟨p, kvs, rfl, hp, ⟨rfl, hkk⟩, r⟩ := rx
      have ey := rep_key hq ry
      rcases dlook_rep (q := q) r with ⟨n1, _⟩ | ⟨d', v, n1, n2, n3⟩
      · rw [n1] at hd; cases hd
      · rw [n1] at hd h
        cases hd
        exact .inr ⟨p, v, rfl, .inl ⟨kvs, q, rd_up M.sub hp, ey, n2.symm⟩, Post.here h M n3⟩
    · exact h.elim
  | _ => exact h.elim
theorem ee_ix (hu : X.A.units + 100 < cLine) (ha : EE X c Wx a fa) (hb : EE X c Wx b fb) (hs : PlainIx b := by exact fun _ _ => rfl) : EE X c Wx (.Subscript a b pos) (x2 fa fb ixG) :=
  (pe_ix (ix_Q hu) ha hb hs).impQ fun σ H Q ⟨W, o, e, m, M, h⟩ => ⟨W, o, e, m, M, (Post.bind h).mono fun v H1 ⟨W1, o1, e1, m1, d1, u1, M1, r1, h1⟩ =>
    ⟨W1, o1, e1, m1, M1, (Post.bind h1).mono fun v2 H2 ⟨W2, o2, e2, m2, d2, u2, M2, r2, h2⟩ => od_ix W2 o2 σ H2 e2 m2 d1 d2 v v2 Q M2 (r1.up u2) r2 h2⟩⟩
/-! ### what a name's own object tells, where it stays the name's own -/
def hasS (e : Env) (i : Nat) : Bool := match e[i]? with
  | some (some _) => true
  | _ => false
theorem SlRep.val {K : PySem.W.Frag} {mg : Str → Option Value} {W : Wd} {o : Nat → Option Addr} {H : Hp} {i : Nat} {s : Sl} {x : Option V} (h : SlRep K mg W o H i s x) : ∃ v, x = some v := by
  cases s with
  | fz d =>
    obtain ⟨v, h1, _⟩ := h
    exact ⟨v, h1⟩
  | ol l =>
    obtain ⟨a, vs, _, h1, _⟩ := h
    exact ⟨_, h1⟩
  | od ks ds =>
    obtain ⟨a, vs, _, h1, _⟩ := h
    exact ⟨_, h1⟩
  | oi n ns ds =>
    obtain ⟨a, C, dx, vs, _, ⟨h1, _⟩, _⟩ := h
    exact ⟨_, h1⟩
theorem Mt.has {K : PySem.W.Frag} {mg : Str → Option Value} {W : Wd} {o : Nat → Option Addr} {σ : L2.St} {H : Hp} {e : Env} {m : MS} {i : Nat} (M : Mt K mg c W o σ H e m) (h : hasS e i = true) : ∃ v, σ[i]? = some (some v) := by
  unfold hasS at h
  split at h
  · rename_i s hs
    obtain ⟨x, h1, h2⟩ := M.env i s hs
    obtain ⟨v, rfl⟩ := h2.val
    exact ⟨v, h1⟩
  · cases h
/-- the slot i at the value x: data; or its own list, dict -/
theorem Mt.slot {K : PySem.W.Frag} {mg : Str → Option Value} {W : Wd} {o : Nat → Option Addr} {σ : L2.St} {H : Hp} {e : Env} {m : MS} {i : Nat} {s : Sl} {v : V} (M : Mt K mg c W o σ H e m) (hσ : σ[i]? = some (some v)) (h : e[i]? = some (some s)) :
    SlRep K mg W o H i s (some v) := by
  obtain ⟨x, h1, h2⟩ := M.env i s h
  rw [hσ] at h1
  cases h1
  exact h2
def onS {α : Type} (i : Nat) (k : Env → MS → R α) : Env → MS → R α := fun e m => if hasS e i then k e m else .no
theorem Post.onS {α β : Type} {W : Wd} {o : Nat → Option Addr} {σ : L2.St} {H : Hp} {Rp : Wd → α → β → Prop} {Q : β → Hp → Prop} {i : Nat} {k : Env → MS → R α} {e : Env} {m : MS} (M : Mt X.K X.mg c W o σ H e m) (h : Post X.K X.mg c W σ Rp Q Wx (onS i k e m)) :
    ∃ v, σ[i]? = some (some v) ∧ Post X.K X.mg c W σ Rp Q Wx (k e m) := by
  unfold Qd.onS at h
  split at h
  · rename_i hs
    obtain ⟨v, hv⟩ := M.has hs
    exact ⟨v, hv, h⟩
  · exact h.elim
/-- name[..] -/
def xIxN (i : Nat) (f : FE) : FE := onS i fun e m => (f e m).bind fun y e m => match e[i]? with
  | some (some (.fz d)) => ixG d y e m
  | some (some (.ol l)) => match y with
    | .int k => fin (atI l k) e m
    | _ => .no
  | some (some (.od ks vs)) => match keyK y with
    | some q => fin (dlook ks vs q) e m
    | none => .no
  | _ => .no
theorem ee_ixN {i : Nat} {x : Str} {p1 : Pos} (hu : X.A.units + 100 < cLine) (hN : X.N[i]? = some x) (hv : Vis X.env.scope x) (hb : EE X c Wx b fb) (hs : PlainIx b := by exact fun _ _ => rfl)
    (hd : (x == ("__debug__" : Str)) = false := by decide) (hcd : (x == ("__classdict__" : Str)) = false := by decide) : EE X c Wx (.Subscript (.Name x p1) b pos) (xIxN i fb) :=
  (pe_ix (ix_Q hu) (pe_var hN hv hd hcd) hb hs).impQ fun σ H Q ⟨W, o, e, m, M, h⟩ => by
    obtain ⟨x, hx, h⟩ := Post.onS M h
    refine ⟨x, hx, W, o, e, m, M, (Post.bind h).mono fun v2 H2 ⟨W2, o2, e2, m2, d2, u2, M2, r2, h2⟩ => ?_⟩
    split at h2
    · rename_i d hd
      obtain ⟨v, hv, r⟩ := M2.slot hx hd
      cases hv
      exact od_ix W2 o2 σ H2 e2 m2 d d2 x v2 Q M2 r r2 h2
    · rename_i l hd
      obtain ⟨p, vs, ho, hv, hp, hz, r⟩ := M2.slot hx hd
      cases hv
      cases d2 with
      | int k =>
        cases r2
        obtain ⟨d, hd', h2⟩ := Post.fin h2
        obtain ⟨v, hv, rv⟩ := r.atI hd'
        exact .inl (.inl ⟨p, vs, k, v, rfl, rfl, SqL.of hp, hv, Post.here h2 M2 rv⟩)
      | _ => exact h2.elim
    · rename_i ks ds hd
      obtain ⟨p, kvs, ho, hv, hp, ⟨rfl, hkk⟩, r⟩ := M2.slot hx hd
      cases hv
      split at h2
      · rename_i q hq
        obtain ⟨d, hd', h2⟩ := Post.fin h2
        have ey := rep_key hq r2
        rcases dlook_rep (q := q) r with ⟨n1, _⟩ | ⟨d', v, n1, n2, n3⟩
        · rw [n1] at hd'; cases hd'
        · rw [n1] at hd'
          cases hd'
          exact .inr ⟨p, v, rfl, .inl ⟨kvs, q, .inl hp, ey, n2.symm⟩, Post.here h2 M2 n3⟩
      · exact h2.elim
    · exact h2.elim
end
end Qd
end
section
set_option Elab.async false
set_option linter.all false
set_option autoImplicit false
set_option maxRecDepth 100000

namespace Qd
open PySem PySem.Spec PyProof.Rows L2
open PySem.PyData (strOk)
section
variable {X : Cx} {c : C0} {Wx : WX} {a b : Expr} {fa fb : FE} {ft fu : FT} {pos : Pos}

/-! ### slices -/
abbrev FO := Env → MS → R (Option Int)
def RpI : Wd → Option Int → Option Int → Prop := fun _ x y => x = y
def tO (K : PySem.W.Frag) (mg : Str → Option Value) (c : C0) (Wx : WX) (f : FO) : TO := fun σ H Q => ∃ W o e m, Mt K mg c W o σ H e m ∧ Post K mg c W σ RpI Q Wx (f e m)
abbrev EO (X : Cx) (c : C0) (Wx : WX) (x : Option Expr) (f : FO) : Prop := PO X x (tO X.K X.mg c Wx f)
theorem _root_.L2.PO.impQ {X : Cx} {x : Option Expr} {t t' : TO} (h : PO X x t) (k : ∀ σ H Q, t' σ H Q → t σ H Q) : PO X x t' := ⟨fun pins s σ H Q I q => h.run pins s σ H Q I (k _ _ _ q)⟩
def oNone : FO := fun e m => .ok none e m
def oSome (f : FE) : FO := fun e m => (f e m).bind fun d e m => match d with
  | .int i => .ok (some i) e m
  | _ => .no
theorem eo_none : EO X c Wx none oNone := po_none.impQ fun σ H Q ⟨W, o, e, m, M, h⟩ => Post.here (Rp := RpI) h M rfl
theorem eo_some (ha : EE X c Wx a fa) : EO X c Wx (some a) (oSome fa) :=
  (po_some ha).impQ fun σ H Q ⟨W, o, e, m, M, h⟩ => ⟨W, o, e, m, M, (Post.bind h).mono fun v H1 ⟨W1, o1, e1, m1, d1, u1, M1, r1, h1⟩ => by
    cases d1 with
    | int i => exact ⟨i, r1, Post.here (Rp := RpI) h1 M1 rfl⟩
    | _ => exact h1.elim⟩
def cutD {α : Type} (l : List α) (lo hi : Option Int) : List α := (l.drop (HT.sIx l.length 0 lo)).take (HT.sIx l.length l.length hi - HT.sIx l.length 0 lo)
theorem Reps.cut {K : PySem.W.Frag} {mg : Str → Option Value} {W : Wd} {l : List D} {vs : List V} (h : Reps K mg W l vs) (lo hi : Option Int) : Reps K mg W (cutD l lo hi) (cutV vs lo hi) := by
  unfold cutD cutV
  rw [← h.len]
  exact (h.drop _).take _
theorem cut_whole {α : Type} {l : List α} {lo hi : Option Int} (h : HT.sIx l.length 0 lo = 0 ∧ HT.sIx l.length l.length hi = l.length) : cutD l lo hi = l := by
  unfold cutD
  rw [h.1, h.2, List.drop_zero, Nat.sub_zero, List.take_length]
theorem cutD_len {α : Type} (l : List α) (lo hi : Option Int) : (cutD l lo hi).length ≤ l.length := by
  unfold cutD
  rw [List.length_take, List.length_drop]
  omega
def slG : D → Option Int → Option Int → Option D
  | .tup l, lo, hi => some (.tup (cutD l lo hi))
  | .lst l, lo, hi => some (.lst (cutD l lo hi))
  | .scr l, lo, hi => some (.lst ((cutD l lo hi).map .int))
  | .str z, lo, hi => some (.str (cutS z lo hi))
  | _, _, _ => none
abbrev rSlQ (K : PySem.W.Frag) : V → Option Int → Option Int → Hp → VK → Prop := fun x lo hi H Q => (rSlL K x lo hi H Q ∨ rSlA K x lo hi H Q) ∨ rSlS x lo hi H Q
theorem sl_Q : SlR X (rSlQ X.K) := SlR.or (SlR.or sl_list sl_tupA) sl_str
theorem okS_cut {z : Str} {lo hi : Option Int} (h : okS z = true) : okS (cutS z lo hi) = true := by
  refine okS_mk ?_ (strOk_sub (okS_ok h) fun x hx => ?_)
  · have h1 := okS_len h
    show ((z.cps.toList.drop _).take _).toArray.size ≤ 16777216
    rw [List.size_toArray, List.length_take, List.length_drop]
    have : z.cps.toList.length = z.length := by simp [Str.length]
    have h2 : sizeLine = 16777216 := rfl
    omega
  · have e : (cutS z lo hi).cps.toList = (z.cps.toList.drop (HT.sIx z.length 0 lo)).take (HT.sIx z.length z.length hi - HT.sIx z.length 0 lo) := by
      unfold cutS
      rfl
    rw [e] at hx
    exact List.mem_of_mem_drop (List.mem_of_mem_take hx)
theorem cutV_ints (l : List Int) (lo hi : Option Int) : cutV (l.map V.int) lo hi = (cutD l lo hi).map V.int := by
  unfold cutV cutD
  rw [List.length_map, ← List.map_drop, ← List.map_take]
theorem reps_ints {K : PySem.W.Frag} {mg : Str → Option Value} {W : Wd} : ∀ l : List Int, Reps K mg W (l.map .int) (l.map V.int)
  | [] => rfl
  | x :: r => ⟨_, _, rfl, rfl, reps_ints r⟩
theorem sd_sl {W : Wd} {o : Nat → Option Addr} {σ : L2.St} {H : Hp} {e : Env} {m : MS} {x : D} {vx : V} {lo hi : Option Int} {Q : VK} (M : Mt X.K X.mg c W o σ H e m) (rx : Rep X.K X.mg W x vx) (h : Post X.K X.mg c W σ (Rep X.K X.mg) Q Wx (fin (slG x lo hi) e m)) : rSlQ X.K vx lo hi H Q := by
  obtain ⟨d, hd, h⟩ := Post.fin h
  unfold slG at hd
  split at hd
  · cases hd
    obtain ⟨p, vs, rfl, hp, hzr, r⟩ := rx
    refine .inl (.inr ⟨p, vs, rfl, SqT.of (M.sub _ _ hp), fun z => ?_, fun z q hq => ?_⟩)
    · rw [← r.len] at z
      rw [cut_whole z] at h
      exact Post.here h M ⟨p, vs, rfl, hp, hzr, r⟩
    · exact Post.new h M hq (rep_tup (M.newP hq) (Nat.le_trans (cutD_len _ _ _) hzr) (r.cut _ _))
  · cases hd
    obtain ⟨p, vs, rfl, hp, hzr, r⟩ := rx
    exact .inl (.inl ⟨p, vs, rfl, SqL.of (M.sub _ _ hp), fun q hq => Post.new h M hq (rep_lst (M.newP hq) (Nat.le_trans (cutD_len _ _ _) hzr) (r.cut _ _))⟩)
  · cases hd
    obtain ⟨p, rfl, hp, hz⟩ := rx
    refine .inl (.inl ⟨p, _, rfl, sql_up M.sub hp, fun q hq => ?_⟩)
    rw [cutV_ints]
    exact Post.new h M hq (rep_lst (M.newP hq) (by rw [List.length_map]; exact Nat.le_trans (cutD_len _ _ _) hz) (reps_ints _))
  · cases hd
    obtain ⟨rfl, hz⟩ := rx
    exact .inr ⟨_, rfl, okS_len hz, Post.here h M ⟨rfl, okS_cut hz⟩⟩
  · cases hd
def xSl (f : FE) (lo hi : FO) : FE := fun e m => (f e m).bind fun x e m => (lo e m).bind fun l e m => (hi e m).bind fun h e m => fin (slG x l h) e m
theorem ee_sl {lo hi : Option Expr} {fl fh : FO} {p2 : Pos} (ha : EE X c Wx a fa) (hl : EO X c Wx lo fl) (hh : EO X c Wx hi fh) : EE X c Wx (.Subscript a (.Slice lo hi none p2) pos) (xSl fa fl fh) :=
  (pe_slice sl_Q ha hl hh).impQ fun σ H Q ⟨W, o, e, m, M, h⟩ => ⟨W, o, e, m, M, (Post.bind (Rp := Rep X.K X.mg) h).mono fun v H1 ⟨W1, o1, e1, m1, d1, u1, M1, r1, h1⟩ =>
    ⟨W1, o1, e1, m1, M1, (Post.bind (Rp := RpI) h1).mono fun l H2 ⟨W2, o2, e2, m2, d2, u2, M2, r2, h2⟩ => by
      cases r2
      exact ⟨W2, o2, e2, m2, M2, (Post.bind (Rp := RpI) h2).mono fun l' H3 ⟨W3, o3, e3, m3, d3, u3, M3, r3, h3⟩ => by
        cases r3
        exact sd_sl M3 ((r1.up u2).up u3) h3⟩⟩⟩

/-! ### calls of built-ins -/
theorem ee_callB {x : Str} {p : Pos} {id : String} {r : List V → Hp → VK → Prop} {g : List D → Env → MS → R D} {x1 : Expr} {xs : List Expr} {f : FA} (hc : CallR X (.builtin id) r) (hv : bootBuiltins x = some (.builtin id)) (hg : CaD X c Wx r g) (hgl : Gl X x) (hm : X.mg x = none) (ha : EA X c Wx (x1 :: xs) f)
    (hn : x ≠ "__name__" := by decide) (hdb : (x == ("__debug__" : Str)) = false := by decide) (he : starEach (x1 :: xs) X.env = (false, eval x1 X.env) :: starEach xs X.env := by rfl) (hpl : (backTo pos (starEach xs X.env)).any (·.1) = false := by rfl) :
    EE X c Wx (.Call (.Name x p) (x1 :: xs) [] pos) (xA f g) :=
  (pe_callB hc hgl hm hv ha hn hdb he hpl).impQ fun σ H Q ⟨W, o, e, m, M, h⟩ => ⟨W, o, e, m, M, (Post.bind h).mono fun v H1 ⟨W1, o1, e1, m1, d1, u1, M1, r1, h1⟩ => hg W1 o1 σ H1 e1 m1 d1 v Q M1 r1 h1⟩
theorem ee_callT {x : Str} {p : Pos} {T : String} {r : List V → Hp → VK → Prop} {g : List D → Env → MS → R D} {x1 : Expr} {xs : List Expr} {f : FA} (hc : CallR X (.type T) r) (hv : bootBuiltins x = some (.type T)) (hg : CaD X c Wx r g) (hgl : Gl X x) (hm : X.mg x = none) (ha : EA X c Wx (x1 :: xs) f)
    (hn : x ≠ "__name__" := by decide) (hdb : (x == ("__debug__" : Str)) = false := by decide) (he : starEach (x1 :: xs) X.env = (false, eval x1 X.env) :: starEach xs X.env := by rfl) (hpl : (backTo pos (starEach xs X.env)).any (·.1) = false := by rfl) :
    EE X c Wx (.Call (.Name x p) (x1 :: xs) [] pos) (xA f g) :=
  (pe_callTy hc hgl hm hv ha hn hdb he hpl).impQ fun σ H Q ⟨W, o, e, m, M, h⟩ => ⟨W, o, e, m, M, (Post.bind h).mono fun v H1 ⟨W1, o1, e1, m1, d1, u1, M1, r1, h1⟩ => hg W1 o1 σ H1 e1 m1 d1 v Q M1 r1 h1⟩
theorem Reps.one_inv {K : PySem.W.Frag} {mg : Str → Option Value} {W : Wd} {d : D} {vs : List V} (h : Reps K mg W [d] vs) : ∃ v, vs = [v] ∧ Rep K mg W d v := by
  obtain ⟨v, r, rfl, h1, h2⟩ := h
  cases (show r = [] from h2)
  exact ⟨v, rfl, h1⟩
theorem Reps.two_inv {K : PySem.W.Frag} {mg : Str → Option Value} {W : Wd} {d d' : D} {vs : List V} (h : Reps K mg W [d, d'] vs) : ∃ v v', vs = [v, v'] ∧ Rep K mg W d v ∧ Rep K mg W d' v' := by
  obtain ⟨v, r, rfl, h1, h2⟩ := h
  obtain ⟨v', rfl, h3⟩ := h2.one_inv
  exact ⟨v, v', rfl, h1, h3⟩
/-- len -/
abbrev rLenQ (K : PySem.W.Frag) : List V → Hp → VK → Prop := fun xs H Q => ((∃ p ys, xs = [.ref p] ∧ (SqL K H p ys ∨ SqT K H p ys) ∧ Q (.int ys.length) H) ∨ (∃ z, xs = [.str z] ∧ z.length ≤ sizeLine ∧ Q (.int z.length) H)) ∨ ∃ a kvs, xs = [V.ref a] ∧ Rd H a (.dK kvs) ∧ Q (.int kvs.length) H
theorem call_lenRd : CallR X (.builtin "len") (fun xs H Q => ∃ a kvs, xs = [V.ref a] ∧ Rd H a (.dK kvs) ∧ Q (.int kvs.length) H) := by
  intro pins s σ H xs us Q I r h
  obtain ⟨a, kvs, rfl, ha, q⟩ := h
  obtain ⟨u, rfl, ru⟩ := vals1 r
  cases ru
  exact d_len I ha fun t s' I' => ⟨.int kvs.length, H, I', ⟨t, rfl⟩, q⟩
theorem call_lenQ : CallR X (.builtin "len") (rLenQ X.K) := CallR.or (CallR.or call_len_seq call_len_str) call_lenRd
def lenG : List D → Env → MS → R D := fun xs e m => match xs with
  | [.tup l] => .ok (.int l.length) e m
  | [.lst l] => .ok (.int l.length) e m
  | [.scr l] => .ok (.int l.length) e m
  | [.str z] => .ok (.int z.length) e m
  | [.dic ks vs] => .ok (.int vs.length) e m
  | [.obj j] => match m[j]? with
    | some (.lst l) => .ok (.int l.length) e m
    | _ => .no
  | _ => .no
theorem cd_len : CaD X c Wx (rLenQ X.K) lenG := by
  intro W o σ H e m xs vs Q M rx h
  unfold lenG at h
  split at h
  · obtain ⟨v, rfl, r⟩ := rx.one_inv
    obtain ⟨p, ys, rfl, hp, hzr, r⟩ := r
    exact .inl (.inl ⟨p, ys, rfl, .inr (SqT.of (M.sub _ _ hp)), Post.here h M (by rw [← r.len]; exact rfl)⟩)
  · obtain ⟨v, rfl, r⟩ := rx.one_inv
    obtain ⟨p, ys, rfl, hp, hzr, r⟩ := r
    exact .inl (.inl ⟨p, ys, rfl, .inl (SqL.of (M.sub _ _ hp)), Post.here h M (by rw [← r.len]; exact rfl)⟩)
  · obtain ⟨v, rfl, r⟩ := rx.one_inv
    obtain ⟨p, rfl, hp, hz⟩ := r
    exact .inl (.inl ⟨p, _, rfl, .inl (sql_up M.sub hp), Post.here h M (by rw [List.length_map]; exact rfl)⟩)
  · obtain ⟨v, rfl, r⟩ := rx.one_inv
    obtain ⟨rfl, hz⟩ := r
    exact .inl (.inr ⟨_, rfl, okS_len hz, Post.here h M rfl⟩)
  · obtain ⟨v, rfl, r⟩ := rx.one_inv
    obtain ⟨p, kvs, rfl, hp, ⟨rfl, hkk⟩, r⟩ := r
    have e := r.len
    rw [List.length_map] at e
    exact .inr ⟨p, kvs, rfl, rd_up M.sub hp, Post.here h M (by rw [← e]; exact rfl)⟩
  · obtain ⟨v, rfl, r⟩ := rx.one_inv
    obtain ⟨p, rfl, hp⟩ := r
    split at h
    · rename_i l hl
      obtain ⟨ys, hH, r⟩ := M.ms.2 _ _ p hl hp
      exact .inl (.inl ⟨p, ys, rfl, .inl (SqL.of hH), Post.here h M (by rw [← r.len]; exact rfl)⟩)
    · exact h.elim
  · exact h.elim
/-- lists of bools, of ints, of texts -/
def blsO : List D → Option (List Bool)
  | [] => some []
  | .bl b :: r => (blsO r).map (b :: ·)
  | _ :: _ => none
def intsO : List D → Option (List Int)
  | [] => some []
  | .int b :: r => (intsO r).map (b :: ·)
  | _ :: _ => none
def strsO : List D → Option (List Str)
  | [] => some []
  | .str b :: r => (strsO r).map (b :: ·)
  | _ :: _ => none
theorem bls_is : ∀ {l : List D} {bs : List Bool}, blsO l = some bs → l = bs.map .bl
  | [], bs, h => by cases h; rfl
  | .bl b :: r, bs, h => by
    obtain ⟨q, h1, rfl⟩ := Option.map_eq_some_iff.mp (show (blsO r).map (b :: ·) = some bs from h)
    rw [bls_is h1]
    rfl
  | .non :: _, _, h => nomatch h | .int _ :: _, _, h => nomatch h | .str _ :: _, _, h => nomatch h | .ty _ :: _, _, h => nomatch h | .glo _ :: _, _, h => nomatch h | .tup _ :: _, _, h => nomatch h
  | .lst _ :: _, _, h => nomatch h | .scr _ :: _, _, h => nomatch h | .dic _ _ :: _, _, h => nomatch h | .ins _ _ _ :: _, _, h => nomatch h | .exc _ _ _ :: _, _, h => nomatch h | .obj _ :: _, _, h => nomatch h
theorem ints_is : ∀ {l : List D} {bs : List Int}, intsO l = some bs → l = bs.map .int
  | [], bs, h => by cases h; rfl
  | .int b :: r, bs, h => by
    obtain ⟨q, h1, rfl⟩ := Option.map_eq_some_iff.mp (show (intsO r).map (b :: ·) = some bs from h)
    rw [ints_is h1]
    rfl
  | .non :: _, _, h => nomatch h | .bl _ :: _, _, h => nomatch h | .str _ :: _, _, h => nomatch h | .ty _ :: _, _, h => nomatch h | .glo _ :: _, _, h => nomatch h | .tup _ :: _, _, h => nomatch h
  | .lst _ :: _, _, h => nomatch h | .scr _ :: _, _, h => nomatch h | .dic _ _ :: _, _, h => nomatch h | .ins _ _ _ :: _, _, h => nomatch h | .exc _ _ _ :: _, _, h => nomatch h | .obj _ :: _, _, h => nomatch h
theorem strs_is : ∀ {l : List D} {bs : List Str}, strsO l = some bs → l = bs.map .str
  | [], bs, h => by cases h; rfl
  | .str b :: r, bs, h => by
    obtain ⟨q, h1, rfl⟩ := Option.map_eq_some_iff.mp (show (strsO r).map (b :: ·) = some bs from h)
    rw [strs_is h1]
    rfl
  | .non :: _, _, h => nomatch h | .bl _ :: _, _, h => nomatch h | .int _ :: _, _, h => nomatch h | .ty _ :: _, _, h => nomatch h | .glo _ :: _, _, h => nomatch h | .tup _ :: _, _, h => nomatch h
  | .lst _ :: _, _, h => nomatch h | .scr _ :: _, _, h => nomatch h | .dic _ _ :: _, _, h => nomatch h | .ins _ _ _ :: _, _, h => nomatch h | .exc _ _ _ :: _, _, h => nomatch h | .obj _ :: _, _, h => nomatch h
@[simp] theorem blsO_map (l : List Bool) : blsO (l.map .bl) = some l := by induction l with
  | nil => rfl
  | cons a r ih => simp [blsO, ih]
@[simp] theorem intsO_map (l : List Int) : intsO (l.map .int) = some l := by induction l with
  | nil => rfl
  | cons a r ih => simp [intsO, ih]
@[simp] theorem strsO_map (l : List Str) : strsO (l.map .str) = some l := by induction l with
  | nil => rfl
  | cons a r ih => simp [strsO, ih]
section
variable {K : PySem.W.Frag} {mg : Str → Option Value} {W : Wd}
theorem reps_bls_inv : ∀ {l : List Bool} {vs : List V}, Reps K mg W (l.map .bl) vs → vs = l.map V.bl
  | [], vs, h => h
  | b :: r, vs, h => by
    obtain ⟨v, t, rfl, h1, h2⟩ := h
    rw [reps_bls_inv h2, show v = V.bl b from h1]
    rfl
theorem reps_ints_inv : ∀ {l : List Int} {vs : List V}, Reps K mg W (l.map .int) vs → vs = l.map V.int
  | [], vs, h => h
  | b :: r, vs, h => by
    obtain ⟨v, t, rfl, h1, h2⟩ := h
    rw [reps_ints_inv h2, show v = V.int b from h1]
    rfl
theorem reps_strs_inv : ∀ {l : List Str} {vs : List V}, Reps K mg W (l.map .str) vs → vs = l.map V.str ∧ ∀ s ∈ l, okS s = true
  | [], vs, h => ⟨h, fun _ h => nomatch h⟩
  | b :: r, vs, h => by
    obtain ⟨v, t, rfl, ⟨rfl, h1⟩, h2⟩ := h
    obtain ⟨rfl, h3⟩ := reps_strs_inv h2
    refine ⟨rfl, fun s hs => ?_⟩
    rcases List.mem_cons.mp hs with rfl | hs
    · exact h1
    · exact h3 s hs
theorem reps_strs : ∀ {l : List Str}, (∀ s ∈ l, okS s = true) → Reps K mg W (l.map .str) (l.map V.str)
  | [], _ => rfl
  | x :: r, h => ⟨_, _, rfl, ⟨rfl, h x List.mem_cons_self⟩, reps_strs fun s hs => h s (List.mem_cons_of_mem _ hs)⟩
end
def allG : List D → Option D
  | [.lst l] => (blsO l).map fun bs => .bl (bs.all id)
  | _ => none
def anyG : List D → Option D
  | [.lst l] => (blsO l).map fun bs => .bl (bs.any id)
  | _ => none
def sumG : List D → Option D
  | [.lst l] => (intsO l).map fun bs => .int bs.sum
  | _ => none
theorem cd_all : CaD X c Wx (rAll X.K) (purA allG) := by
  intro W o σ H e m xs vs Q M rx h0
  obtain ⟨d, hd, h⟩ := Post.fin h0
  unfold allG at hd
  split at hd
  · obtain ⟨bs, h1, rfl⟩ := Option.map_eq_some_iff.mp hd
    cases bls_is h1
    obtain ⟨v, rfl, r⟩ := rx.one_inv
    obtain ⟨p, ys, rfl, hp, hzr, r⟩ := r
    cases reps_bls_inv r
    exact ⟨p, bs, rfl, SqL.of (M.sub _ _ hp), h W o H _ (Up.refl W) M rfl⟩
  · cases hd
theorem cd_any : CaD X c Wx (rAny X.K) (purA anyG) := by
  intro W o σ H e m xs vs Q M rx h0
  obtain ⟨d, hd, h⟩ := Post.fin h0
  unfold anyG at hd
  split at hd
  · obtain ⟨bs, h1, rfl⟩ := Option.map_eq_some_iff.mp hd
    cases bls_is h1
    obtain ⟨v, rfl, r⟩ := rx.one_inv
    obtain ⟨p, ys, rfl, hp, hzr, r⟩ := r
    cases reps_bls_inv r
    exact ⟨p, bs, rfl, SqL.of (M.sub _ _ hp), h W o H _ (Up.refl W) M rfl⟩
  · cases hd
theorem cd_sum : CaD X c Wx (rSum X.K) (purA sumG) := by
  intro W o σ H e m xs vs Q M rx h0
  obtain ⟨d, hd, h⟩ := Post.fin h0
  unfold sumG at hd
  split at hd
  · obtain ⟨bs, h1, rfl⟩ := Option.map_eq_some_iff.mp hd
    cases ints_is h1
    obtain ⟨v, rfl, r⟩ := rx.one_inv
    obtain ⟨p, ys, rfl, hp, hzr, r⟩ := r
    cases reps_ints_inv r
    exact ⟨p, bs, rfl, SqL.of (M.sub _ _ hp), h W o H _ (Up.refl W) M rfl⟩
  · cases hd
def absG : List D → Option D
  | [.int i] => some (.int (if i < 0 then -i else i))
  | _ => none
def intG : List D → Option D
  | [.int i] => some (.int i)
  | [.bl k] => some (.int (if k then 1 else 0))
  | _ => none
def maxG : List D → Option D
  | [.int i, .int j] => some (.int (if j > i then j else i))
  | _ => none
def minG : List D → Option D
  | [.int i, .int j] => some (.int (if j < i then j else i))
  | _ => none
def divmodG : List D → Option D
  | [.int i, .int j] => if 0 < j ∧ j < 1073741824 then some (.tup [.int (i / j), .int (i % j)]) else none
  | _ => none
theorem cd_abs : CaD X c Wx (fun xs H Q => ∃ i, xs = [.int i] ∧ Q (.int (if i < 0 then -i else i)) H) (purA absG) := by
  intro W o σ H e m xs vs Q M rx h
  obtain ⟨d, hd, h⟩ := Post.fin h
  unfold absG at hd
  split at hd
  · cases hd
    obtain ⟨v, rfl, rfl⟩ := rx.one_inv
    exact ⟨_, rfl, Post.here h M rfl⟩
  · cases hd
theorem cd_int : CaD X c Wx (fun xs H Q => (∃ i, xs = [.int i] ∧ Q (.int i) H) ∨ ∃ k, xs = [.bl k] ∧ Q (.int (if k then 1 else 0)) H) (purA intG) := by
  intro W o σ H e m xs vs Q M rx h
  obtain ⟨d, hd, h⟩ := Post.fin h
  unfold intG at hd
  split at hd
  · cases hd
    obtain ⟨v, rfl, rfl⟩ := rx.one_inv
    exact .inl ⟨_, rfl, Post.here h M rfl⟩
  · cases hd
    obtain ⟨v, rfl, rfl⟩ := rx.one_inv
    exact .inr ⟨_, rfl, Post.here h M rfl⟩
  · cases hd
theorem cd_max : CaD X c Wx (fun xs H Q => ∃ i j, xs = [.int i, .int j] ∧ Q (.int (if j > i then j else i)) H) (purA maxG) := by
  intro W o σ H e m xs vs Q M rx h
  obtain ⟨d, hd, h⟩ := Post.fin h
  unfold maxG at hd
  split at hd
  · cases hd
    obtain ⟨v, v', rfl, rfl, rfl⟩ := rx.two_inv
    exact ⟨_, _, rfl, Post.here h M rfl⟩
  · cases hd
theorem cd_min : CaD X c Wx (fun xs H Q => ∃ i j, xs = [.int i, .int j] ∧ Q (.int (if j < i then j else i)) H) (purA minG) := by
  intro W o σ H e m xs vs Q M rx h
  obtain ⟨d, hd, h⟩ := Post.fin h
  unfold minG at hd
  split at hd
  · cases hd
    obtain ⟨v, v', rfl, rfl, rfl⟩ := rx.two_inv
    exact ⟨_, _, rfl, Post.here h M rfl⟩
  · cases hd
theorem cd_divmod : CaD X c Wx (fun xs H Q => ∃ i j, xs = [.int i, .int j] ∧ CDiv i j ∧ ∀ p, H p = none → Q (.ref p) (upd H p (.tup [.int (i / j), .int (i % j)]))) (purA divmodG) := by
  intro W o σ H e m xs vs Q M rx h
  obtain ⟨d, hd, h⟩ := Post.fin h
  unfold divmodG at hd
  split at hd
  · split at hd
    · rename_i hc
      cases hd
      obtain ⟨v, v', rfl, rfl, rfl⟩ := rx.two_inv
      exact ⟨_, _, rfl, hc, fun p hp => Post.new h M hp (rep_tup (M.newP hp) (by show 2 ≤ sizeLine; decide) ⟨_, _, rfl, rfl, _, _, rfl, rfl, rfl⟩)⟩
    · cases hd
  · cases hd
/-- tuple(..), list(..) of a list or tuple -/
def tupG : List D → Option D
  | [.lst l] => some (.tup l)
  | [.tup l] => some (.tup l)
  | _ => none
def lstG : List D → Option D
  | [.lst l] => some (.lst l)
  | [.tup l] => some (.lst l)
  | [.scr l] => some (.lst (l.map .int))
  | _ => none
theorem cd_tup : CaD X c Wx (fun xs H Q => ∃ p ys, xs = [.ref p] ∧ ((SqL X.K H p ys ∧ ∀ l, H l = none → Q (.ref l) (upd H l (.tup ys))) ∨ (SqT X.K H p ys ∧ Q (.ref p) H))) (purA tupG) := by
  intro W o σ H e m xs vs Q M rx h
  obtain ⟨d, hd, h⟩ := Post.fin h
  unfold tupG at hd
  split at hd
  · cases hd
    obtain ⟨v, rfl, r⟩ := rx.one_inv
    obtain ⟨p, ys, rfl, hp, hzr, r⟩ := r
    exact ⟨p, ys, rfl, .inl ⟨SqL.of (M.sub _ _ hp), fun q hq => Post.new h M hq (rep_tup (M.newP hq) hzr r)⟩⟩
  · cases hd
    obtain ⟨v, rfl, r⟩ := rx.one_inv
    obtain ⟨p, ys, rfl, hp, hzr, r⟩ := r
    exact ⟨p, ys, rfl, .inr ⟨SqT.of (M.sub _ _ hp), Post.here h M ⟨p, ys, rfl, hp, hzr, r⟩⟩⟩
  · cases hd
abbrev rListQ (K : PySem.W.Frag) : List V → Hp → VK → Prop := fun xs H Q => ∃ p ys, xs = [.ref p] ∧ (SqL K H p ys ∨ SqT K H p ys) ∧ ∀ l, H l = none → Q (.ref l) (upd H l (.lst ys))
theorem cd_lst : CaD X c Wx (rListQ X.K) (purA lstG) := by
  intro W o σ H e m xs vs Q M rx h
  obtain ⟨d, hd, h⟩ := Post.fin h
  unfold lstG at hd
  split at hd
  · cases hd
    obtain ⟨v, rfl, r⟩ := rx.one_inv
    obtain ⟨p, ys, rfl, hp, hzr, r⟩ := r
    exact ⟨p, ys, rfl, .inl (SqL.of (M.sub _ _ hp)), fun q hq => Post.new h M hq (rep_lst (M.newP hq) hzr r)⟩
  · cases hd
    obtain ⟨v, rfl, r⟩ := rx.one_inv
    obtain ⟨p, ys, rfl, hp, hzr, r⟩ := r
    exact ⟨p, ys, rfl, .inr (SqT.of (M.sub _ _ hp)), fun q hq => Post.new h M hq (rep_lst (M.newP hq) hzr r)⟩
  · cases hd
    obtain ⟨v, rfl, r⟩ := rx.one_inv
    obtain ⟨p, rfl, hp, hz⟩ := r
    exact ⟨p, _, rfl, .inl (sql_up M.sub hp), fun q hq => Post.new h M hq (rep_lst (M.newP hq) (by rw [List.length_map]; exact hz) (reps_ints _))⟩
  · cases hd

/-! ### sorted -/
def pdG (d : D) : PyData := (pdO d).getD .none
def isTupP : PyData → Bool
  | .tuple (_ :: _) => true
  | _ => false
def isOthP : PyData → Bool
  | .none => false
  | .tuple _ => false
  | _ => true
def sortable (ps : List PyData) : Bool := (ps.all fun p => ps.all fun q => PySem.W.alike p q) && (ps.all isTupP || ps.all isOthP) && ps.all fun p => decide (p.depth ≤ 60)
def dLe (a b : D) : Bool := PySem.W.dataLe false pdG a b
/-- the items of a sorted list -/
def srtL (l : List D) : Option (List D) := match pdOs l with
  | some ps => if sortable ps ∧ l.length ≤ 16777216 then some (l.mergeSort dLe) else none
  | none => none
def srtG : List D → Option D
  | [.lst l] => (srtL l).map .lst
  | _ => none
theorem pdOs_map : ∀ {l : List D} {ps : List PyData}, pdOs l = some ps → l.map pdG = ps
  | [], ps, h => by rw [pdOs] at h; cases h; rfl
  | d :: r, ps, h => by
    obtain ⟨p, q, h1, h2, rfl⟩ := pdOs_cons h
    rw [List.map_cons, pdOs_map h2]
    unfold pdG
    rw [h1]
    rfl
theorem sortable_ok {ps : List PyData} (h : sortable ps = true) : PySem.W.AllAlike ps ∧ PySem.W.Sortable ps ∧ ∀ p ∈ ps, p.depth ≤ 60 := by
  obtain ⟨h12, h3⟩ := Bool.and_eq_true_iff.mp h
  obtain ⟨h1, h2⟩ := Bool.and_eq_true_iff.mp h12
  refine ⟨fun d hd d' hd' => List.all_eq_true.mp (List.all_eq_true.mp h1 d hd) d' hd', ?_, fun p hp => of_decide_eq_true (List.all_eq_true.mp h3 p hp)⟩
  rcases Bool.or_eq_true_iff.mp h2 with h2 | h2
  · refine .inl fun d hd => ?_
    have q := List.all_eq_true.mp h2 d hd
    unfold isTupP at q
    split at q
    · exact ⟨_, _, rfl⟩
    · cases q
  · refine .inr fun d hd => ?_
    have q := List.all_eq_true.mp h2 d hd
    unfold isOthP at q
    split at q
    · cases q
    · cases q
    · rename_i h1 h2
      exact ⟨h1, h2⟩
end
end Qd
end
section
set_option Elab.async false
set_option linter.all false
set_option autoImplicit false
set_option maxRecDepth 100000

namespace Qd
open PySem PySem.Spec PyProof.Rows L2
open PySem.PyData (strOk)

/-! ### sorted(xs): one stable sorted list -/
abbrev BV : Type := V × D
def encB (b : BV) : PyData := pdG b.2
/-- sorted(xs), any items that read as alike data -/
def rSrt (K : PySem.W.Frag) : List V → Hp → VK → Prop := fun vs H Q => ∃ (a : Addr) (bs : List BV), vs = [V.ref a] ∧ SqL K H a (bs.map (·.1)) ∧ (∀ b ∈ bs, Dp K H b.1 (encB b)) ∧ sortable (bs.map encB) = true ∧ bs.length ≤ sizeLine ∧
  ∀ p, H p = none → Q (.ref p) (upd H p (.lst ((bs.mergeSort fun x y => dLe x.2 y.2).map (·.1))))
theorem eachis_of {α β : Type} {R : Value → β → Prop} {f : β → V} : ∀ {us : List Value} {bs : List β}, Vals (bs.map f) us → (∀ u b, b ∈ bs → RelV (f b) u → R u b) → PySem.W.EachIs R us bs
  | us, [], h, _ => by
    cases h
    exact .nil
  | us, b :: bs, h, k => by
    cases h with
    | cons h1 h2 => exact .cons (k _ b List.mem_cons_self h1) (eachis_of (α := α) h2 fun u b' hb r => k u b' (List.mem_cons_of_mem _ hb) r)
theorem vals_of_each {β : Type} {f : β → V} : ∀ {us : List Value} {bs : List β}, PySem.W.EachIs (fun u b => RelV (f b) u) us bs → Vals (bs.map f) us
  | _, _, .nil => .nil
  | _, _, .cons h1 h2 => .cons h1 (vals_of_each h2)
theorem each_mem' {α β : Type} {R : α → β → Prop} : ∀ {as : List α} {bs : List β}, PySem.W.EachIs R as bs → as.length = bs.length
  | _, _, .nil => rfl
  | _, _, .cons h1 h2 => by rw [List.length_cons, List.length_cons, each_mem' h2]
section
variable {X : Cx} {c : C0} {Wx : WX} {a b : Expr} {fa fb : FE} {ft fu : FT} {pos : Pos}
theorem call_srt (hu : X.A.units + 100 < cLine) : CallR X (.builtin "sorted") (rSrt X.K) := by
  intro pins s σ H vs us Q I r h
  obtain ⟨a, bs, rfl, hs, hd, hk, hl, q⟩ := h
  obtain ⟨its, rv, pl, _⟩ := I.list hs
  rw [Vals.ref1 r]
  obtain ⟨k1, k2, k3⟩ := sortable_ok hk
  have e1 : PySem.W.EachIs (fun u (b : BV) => RelV b.1 u) its bs := eachis_of (α := V) rv fun u b _ r => r
  have e2 : PySem.W.EachIs (fun u (b : BV) => ∃ as, Reads s.heap u (encB b) as) its bs := eachis_of (α := V) rv fun u b hb r => Dp.reads I _ _ _ (hd b hb) r
  refine PySem.W.sorted_data (enc := encB) pl.isList e1 e2 k1 k2 hl (fun b hb => ?_) fun out ho er => ?_
  · have := k3 (encB b) (List.mem_map.mpr ⟨b, hb, rfl⟩)
    omega
  · obtain ⟨ep, he'⟩ := PyProof.Rows.sortedAll_at s.heap its out.toArray
    have hz : ((bs.mergeSort fun x y => dLe x.2 y.2).map (·.1)).length ≤ sizeLine := by rw [List.length_map, List.length_mergeSort]; exact hl
    exact ⟨.ref _, upd H (s.heap.objs.size + 1) (.lst ((bs.mergeSort fun x y => dLe x.2 y.2).map (·.1))), I.laid (t' := s.toks) (fun _ _ => PyProof.Rows.sortedAll_old) (Nat.le_succ _)
      ⟨hz, out, ep, vals_of_each er, he'⟩, rfl, q _ (I.hok.fresh (Nat.le_succ _))⟩
theorem reps_zip {K : PySem.W.Frag} {mg : Str → Option Value} {W : Wd} : ∀ {l : List D} {vs : List V}, Reps K mg W l vs → ((vs.zip l).map (·.1) = vs ∧ (vs.zip l).map (·.2) = l ∧ ∀ b ∈ vs.zip l, Rep K mg W b.2 b.1)
  | [], vs, h => by
    cases (show vs = [] from h)
    exact ⟨rfl, rfl, fun _ h => nomatch h⟩
  | d :: l, vs, h => by
    obtain ⟨v, r, rfl, h1, h2⟩ := h
    obtain ⟨a1, a2, a3⟩ := reps_zip h2
    refine ⟨by rw [List.zip_cons_cons, List.map_cons, a1], by rw [List.zip_cons_cons, List.map_cons, a2], fun b hb => ?_⟩
    rw [List.zip_cons_cons] at hb
    rcases List.mem_cons.mp hb with rfl | hb
    · exact h1
    · exact a3 b hb
theorem reps_of_pairs {K : PySem.W.Frag} {mg : Str → Option Value} {W : Wd} : ∀ {bs : List BV}, (∀ b ∈ bs, Rep K mg W b.2 b.1) → Reps K mg W (bs.map (·.2)) (bs.map (·.1))
  | [], _ => rfl
  | b :: bs, h => ⟨_, _, rfl, h b List.mem_cons_self, reps_of_pairs fun x hx => h x (List.mem_cons_of_mem _ hx)⟩
theorem mem_pdOs : ∀ {l : List D} {ps : List PyData}, pdOs l = some ps → ∀ d ∈ l, pdO d = some (pdG d)
  | [], _, _, _, h => nomatch h
  | d :: l, ps, e, x, h => by
    obtain ⟨p, q, e1, e2, rfl⟩ := pdOs_cons e
    rcases List.mem_cons.mp h with rfl | h
    · unfold pdG
      rw [e1]
      rfl
    · exact mem_pdOs e2 x h
theorem srtL_some {l l' : List D} (h : srtL l = some l') : ∃ ps, pdOs l = some ps ∧ sortable ps = true ∧ l.length ≤ sizeLine ∧ l' = l.mergeSort dLe := by
  unfold srtL at h
  split at h
  · rename_i ps hp
    split at h
    · rename_i hc
      cases h
      exact ⟨ps, hp, hc.1, hc.2, rfl⟩
    · cases h
  · cases h
/-- from a list of the heap, by its items -/
theorem srt_of {W : Wd} {o : Nat → Option Addr} {σ : L2.St} {H : Hp} {e : Env} {m : MS} {l l' : List D} {vs : List V} {p : Addr} {Q : VK} (M : Mt X.K X.mg c W o σ H e m) (hp : SqL X.K H p vs) (r : Reps X.K X.mg W l vs) (hl : srtL l = some l')
    (h : Post X.K X.mg c W σ (Rep X.K X.mg) Q Wx (.ok (.lst l') e m)) : rSrt X.K [.ref p] H Q := by
  obtain ⟨ps, h1, h2, h3, rfl⟩ := srtL_some hl
  obtain ⟨a1, a2, a3⟩ := reps_zip r
  have hlen : (vs.zip l).length = l.length := by rw [← List.length_map (f := fun b : BV => b.2), a2]
  refine ⟨p, vs.zip l, rfl, by rw [a1]; exact hp, fun b hb => ?_, ?_, by rw [hlen]; exact h3, fun q hq => ?_⟩
  · have hm : b.2 ∈ l := by
      rw [← a2]
      exact List.mem_map.mpr ⟨b, hb, rfl⟩
    exact ((a3 b hb).dp M.sub (mem_pdOs h1 _ hm)).1
  · have e2 : (vs.zip l).map encB = ps := by
      rw [← pdOs_map h1]
      conv => rhs; rw [← a2]
      rw [List.map_map]
      rfl
    rw [e2]
    exact h2
  · have e3 : l.mergeSort dLe = ((vs.zip l).mergeSort fun x y => dLe x.2 y.2).map (·.2) := by
      rw [List.map_mergeSort (s := dLe) (f := fun b : BV => b.2) (fun _ _ _ _ => rfl)]
      exact congrArg (fun z => List.mergeSort z dLe) a2.symm
    rw [e3] at h
    refine Post.new h M hq (rep_lst (M.newP hq) (by rw [List.length_map, List.length_mergeSort, hlen]; exact h3) (reps_of_pairs fun b hb => a3 b ?_))
    exact (List.mergeSort_perm _ _).mem_iff.mp hb
theorem cd_srt : CaD X c Wx (rSrt X.K) (purA srtG) := by
  intro W o σ H e m xs vs Q M rx h0
  obtain ⟨d, hd, h⟩ := Post.fin h0
  unfold srtG at hd
  split at hd
  · obtain ⟨l', h1, rfl⟩ := Option.map_eq_some_iff.mp hd
    obtain ⟨v, rfl, r⟩ := rx.one_inv
    obtain ⟨p, ys, rfl, hp, hzr, r⟩ := r
    exact srt_of M (SqL.of (M.sub _ _ hp)) r h1 h
  · cases hd

/-! ### the built-ins by their names -/
section
variable {p : Pos} {x1 : Expr} {xs : List Expr} {f : FA}
theorem ee_len (hgl : Gl X "len") (hm : X.mg "len" = none) (ha : EA X c Wx (x1 :: xs) f) (he : starEach (x1 :: xs) X.env = (false, eval x1 X.env) :: starEach xs X.env := by rfl) (hpl : (backTo pos (starEach xs X.env)).any (·.1) = false := by rfl) :
    EE X c Wx (.Call (.Name "len" p) (x1 :: xs) [] pos) (xA f lenG) := ee_callB call_lenQ PySem.boot_len cd_len hgl hm ha (by decide) (by decide) he hpl
theorem ee_all (hc : X.calm = true) (hgl : Gl X "all") (hm : X.mg "all" = none) (ha : EA X c Wx (x1 :: xs) f) (he : starEach (x1 :: xs) X.env = (false, eval x1 X.env) :: starEach xs X.env := by rfl) (hpl : (backTo pos (starEach xs X.env)).any (·.1) = false := by rfl) :
    EE X c Wx (.Call (.Name "all" p) (x1 :: xs) [] pos) (xA f (purA allG)) := ee_callB (cr_all hc) (by decide +kernel) cd_all hgl hm ha (by decide) (by decide) he hpl
theorem ee_any (hc : X.calm = true) (hgl : Gl X "any") (hm : X.mg "any" = none) (ha : EA X c Wx (x1 :: xs) f) (he : starEach (x1 :: xs) X.env = (false, eval x1 X.env) :: starEach xs X.env := by rfl) (hpl : (backTo pos (starEach xs X.env)).any (·.1) = false := by rfl) :
    EE X c Wx (.Call (.Name "any" p) (x1 :: xs) [] pos) (xA f (purA anyG)) := ee_callB (cr_any hc) (by decide +kernel) cd_any hgl hm ha (by decide) (by decide) he hpl
theorem ee_sum (hc : X.calm = true) (hgl : Gl X "sum") (hm : X.mg "sum" = none) (ha : EA X c Wx (x1 :: xs) f) (he : starEach (x1 :: xs) X.env = (false, eval x1 X.env) :: starEach xs X.env := by rfl) (hpl : (backTo pos (starEach xs X.env)).any (·.1) = false := by rfl) :
    EE X c Wx (.Call (.Name "sum" p) (x1 :: xs) [] pos) (xA f (purA sumG)) := ee_callB (cr_sum hc) (by decide +kernel) cd_sum hgl hm ha (by decide) (by decide) he hpl
theorem ee_sorted (hu : X.A.units + 100 < cLine) (hgl : Gl X "sorted") (hm : X.mg "sorted" = none) (ha : EA X c Wx (x1 :: xs) f) (he : starEach (x1 :: xs) X.env = (false, eval x1 X.env) :: starEach xs X.env := by rfl) (hpl : (backTo pos (starEach xs X.env)).any (·.1) = false := by rfl) :
    EE X c Wx (.Call (.Name "sorted" p) (x1 :: xs) [] pos) (xA f (purA srtG)) := ee_callB (call_srt hu) (by decide +kernel) cd_srt hgl hm ha (by decide) (by decide) he hpl
theorem ee_abs (hgl : Gl X "abs") (hm : X.mg "abs" = none) (ha : EA X c Wx (x1 :: xs) f) (he : starEach (x1 :: xs) X.env = (false, eval x1 X.env) :: starEach xs X.env := by rfl) (hpl : (backTo pos (starEach xs X.env)).any (·.1) = false := by rfl) :
    EE X c Wx (.Call (.Name "abs" p) (x1 :: xs) [] pos) (xA f (purA absG)) := ee_callB call_abs (by decide +kernel) cd_abs hgl hm ha (by decide) (by decide) he hpl
theorem ee_max (hc : X.calm = true) (hgl : Gl X "max") (hm : X.mg "max" = none) (ha : EA X c Wx (x1 :: xs) f) (he : starEach (x1 :: xs) X.env = (false, eval x1 X.env) :: starEach xs X.env := by rfl) (hpl : (backTo pos (starEach xs X.env)).any (·.1) = false := by rfl) :
    EE X c Wx (.Call (.Name "max" p) (x1 :: xs) [] pos) (xA f (purA maxG)) := ee_callB (call_max2 hc) (by decide +kernel) cd_max hgl hm ha (by decide) (by decide) he hpl
theorem ee_min (hc : X.calm = true) (hgl : Gl X "min") (hm : X.mg "min" = none) (ha : EA X c Wx (x1 :: xs) f) (he : starEach (x1 :: xs) X.env = (false, eval x1 X.env) :: starEach xs X.env := by rfl) (hpl : (backTo pos (starEach xs X.env)).any (·.1) = false := by rfl) :
    EE X c Wx (.Call (.Name "min" p) (x1 :: xs) [] pos) (xA f (purA minG)) := ee_callB (call_min2 hc) (by decide +kernel) cd_min hgl hm ha (by decide) (by decide) he hpl
theorem ee_divmod (hgl : Gl X "divmod") (hm : X.mg "divmod" = none) (ha : EA X c Wx (x1 :: xs) f) (he : starEach (x1 :: xs) X.env = (false, eval x1 X.env) :: starEach xs X.env := by rfl) (hpl : (backTo pos (starEach xs X.env)).any (·.1) = false := by rfl) :
    EE X c Wx (.Call (.Name "divmod" p) (x1 :: xs) [] pos) (xA f (purA divmodG)) := ee_callB call_divmod (by decide +kernel) cd_divmod hgl hm ha (by decide) (by decide) he hpl
theorem ee_intc (hgl : Gl X "int") (hm : X.mg "int" = none) (ha : EA X c Wx (x1 :: xs) f) (he : starEach (x1 :: xs) X.env = (false, eval x1 X.env) :: starEach xs X.env := by rfl) (hpl : (backTo pos (starEach xs X.env)).any (·.1) = false := by rfl) :
    EE X c Wx (.Call (.Name "int" p) (x1 :: xs) [] pos) (xA f (purA intG)) := ee_callT call_int1 (by decide +kernel) cd_int hgl hm ha (by decide) (by decide) he hpl
theorem ee_tuple (hgl : Gl X "tuple") (hm : X.mg "tuple" = none) (ha : EA X c Wx (x1 :: xs) f) (he : starEach (x1 :: xs) X.env = (false, eval x1 X.env) :: starEach xs X.env := by rfl) (hpl : (backTo pos (starEach xs X.env)).any (·.1) = false := by rfl) :
    EE X c Wx (.Call (.Name "tuple" p) (x1 :: xs) [] pos) (xA f (purA tupG)) := ee_callT call_tuple_of (by decide +kernel) cd_tup hgl hm ha (by decide) (by decide) he hpl
theorem ee_list (hgl : Gl X "list") (hm : X.mg "list" = none) (ha : EA X c Wx (x1 :: xs) f) (he : starEach (x1 :: xs) X.env = (false, eval x1 X.env) :: starEach xs X.env := by rfl) (hpl : (backTo pos (starEach xs X.env)).any (·.1) = false := by rfl) :
    EE X c Wx (.Call (.Name "list" p) (x1 :: xs) [] pos) (xA f (purA lstG)) := ee_callT call_list_of (by decide +kernel) cd_lst hgl hm ha (by decide) (by decide) he hpl
end

/-! ### a name's own list: len, in, ==, tuple, sorted, pop, append -/
section
variable {x : Str} {p1 p2 p3 : Pos} {i : Nat}
def ownL (i : Nat) (e : Env) : Option (List D) := match e[i]? with
  | some (some (.ol l)) => some l
  | _ => none
theorem Mt.ownL {K : PySem.W.Frag} {mg : Str → Option Value} {W : Wd} {o : Nat → Option Addr} {σ : L2.St} {H : Hp} {e : Env} {m : MS} {l : List D} {v : V} (M : Mt K mg c W o σ H e m) (hσ : σ[i]? = some (some v)) (h : ownL i e = some l) :
    ∃ p vs, o i = some p ∧ v = .ref p ∧ H p = some (.lst vs) ∧ l.length ≤ sizeLine ∧ Reps K mg W l vs ∧ e[i]? = some (some (.ol l)) := by
  unfold Qd.ownL at h
  split at h
  · rename_i l' hl
    cases h
    obtain ⟨p, vs, ho, hv, hp, hz, r⟩ := M.slot hσ hl
    exact ⟨p, vs, ho, Option.some.inj hv, hp, hz, r, hl⟩
  · cases h
/-- f(name): f of the name's own list, or of its data -/
def xOwn (i : Nat) (g : List D → Option D) (k : List D → Env → MS → R D) : FE := onS i fun e m => match e[i]? with
  | some (some (.ol l)) => fin (g l) e m
  | some (some (.fz d)) => k [d] e m
  | _ => .no
theorem ee_own {id : String} {f : Str} {r : List V → Hp → VK → Prop} {g : List D → Option D} {k : List D → Env → MS → R D} (hc : CallR X (.builtin id) r) (hv : bootBuiltins f = some (.builtin id)) (hg : CaD X c Wx r k)
    (hl : ∀ (W : Wd) (o : Nat → Option Addr) (σ : L2.St) (H : Hp) (e : Env) (m : MS) (l : List D) (vs : List V) (p : Addr) (d : D) (Q : VK), Mt X.K X.mg c W o σ H e m → H p = some (.lst vs) → l.length ≤ sizeLine → Reps X.K X.mg W l vs → g l = some d → Post X.K X.mg c W σ (Rep X.K X.mg) Q Wx (.ok d e m) → r [.ref p] H Q)
    (hgl : Gl X f) (hm : X.mg f = none) (hN : X.N[i]? = some x) (hvi : Vis X.env.scope x) (hd : (x == ("__debug__" : Str)) = false := by decide) (hcd : (x == ("__classdict__" : Str)) = false := by decide)
    (hn : f ≠ "__name__" := by decide) (hdb : (f == ("__debug__" : Str)) = false := by decide) : EE X c Wx (.Call (.Name f p1) [.Name x p2] [] pos) (xOwn i g k) :=
  (pe_callB hc hgl hm hv (pa_cons (pe_var hN hvi hd hcd) pa_nil) hn hdb rfl rfl).impQ fun σ H Q ⟨W, o, e, m, M, h⟩ => by
    obtain ⟨v, hσ, h⟩ := Post.onS M h
    refine ⟨v, hσ, ?_⟩
    show r [v] H Q
    split at h
    · rename_i l hs
      obtain ⟨p, vs, ho, hv, hp, hz, rr⟩ := M.slot hσ hs
      cases hv
      obtain ⟨d, hd, h⟩ := Post.fin h
      exact hl W o σ H e m l vs p d Q M hp hz rr hd h
    · rename_i d hs
      obtain ⟨v', hv, rr⟩ := M.slot hσ hs
      cases hv
      exact hg W o σ H e m [d] [v] Q M (Reps.one rr) h
    · exact h.elim
theorem ee_ownT {T : String} {f : Str} {r : List V → Hp → VK → Prop} {g : List D → Option D} {k : List D → Env → MS → R D} (hc : CallR X (.type T) r) (hv : bootBuiltins f = some (.type T)) (hg : CaD X c Wx r k)
    (hl : ∀ (W : Wd) (o : Nat → Option Addr) (σ : L2.St) (H : Hp) (e : Env) (m : MS) (l : List D) (vs : List V) (p : Addr) (d : D) (Q : VK), Mt X.K X.mg c W o σ H e m → H p = some (.lst vs) → l.length ≤ sizeLine → Reps X.K X.mg W l vs → g l = some d → Post X.K X.mg c W σ (Rep X.K X.mg) Q Wx (.ok d e m) → r [.ref p] H Q)
    (hgl : Gl X f) (hm : X.mg f = none) (hN : X.N[i]? = some x) (hvi : Vis X.env.scope x) (hd : (x == ("__debug__" : Str)) = false := by decide) (hcd : (x == ("__classdict__" : Str)) = false := by decide)
    (hn : f ≠ "__name__" := by decide) (hdb : (f == ("__debug__" : Str)) = false := by decide) : EE X c Wx (.Call (.Name f p1) [.Name x p2] [] pos) (xOwn i g k) :=
  (pe_callTy hc hgl hm hv (pa_cons (pe_var hN hvi hd hcd) pa_nil) hn hdb rfl rfl).impQ fun σ H Q ⟨W, o, e, m, M, h⟩ => by
    obtain ⟨v, hσ, h⟩ := Post.onS M h
    refine ⟨v, hσ, ?_⟩
    show r [v] H Q
    split at h
    · rename_i l hs
      obtain ⟨p, vs, ho, hv, hp, hz, rr⟩ := M.slot hσ hs
      cases hv
      obtain ⟨d, hd, h⟩ := Post.fin h
      exact hl W o σ H e m l vs p d Q M hp hz rr hd h
    · rename_i d hs
      obtain ⟨v', hv, rr⟩ := M.slot hσ hs
      cases hv
      exact hg W o σ H e m [d] [v] Q M (Reps.one rr) h
    · exact h.elim
theorem ee_lenN (hgl : Gl X "len") (hm : X.mg "len" = none) (hN : X.N[i]? = some x) (hvi : Vis X.env.scope x) (hd : (x == ("__debug__" : Str)) = false := by decide) (hcd : (x == ("__classdict__" : Str)) = false := by decide) :
    EE X c Wx (.Call (.Name "len" p1) [.Name x p2] [] pos) (xOwn i (fun l => some (.int l.length)) lenG) :=
  ee_own call_lenQ PySem.boot_len cd_len (fun W o σ H e m l vs p d Q M hp hz r hd h => by
    cases hd
    exact .inl (.inl ⟨p, vs, rfl, .inl (SqL.of hp), Post.here h M (by rw [← r.len]; exact rfl)⟩)) hgl hm hN hvi hd hcd
theorem ee_tupleN (hgl : Gl X "tuple") (hm : X.mg "tuple" = none) (hN : X.N[i]? = some x) (hvi : Vis X.env.scope x) (hd : (x == ("__debug__" : Str)) = false := by decide) (hcd : (x == ("__classdict__" : Str)) = false := by decide) :
    EE X c Wx (.Call (.Name "tuple" p1) [.Name x p2] [] pos) (xOwn i (fun l => some (.tup l)) (purA tupG)) :=
  ee_ownT call_tuple_of (by decide +kernel) cd_tup (fun W o σ H e m l vs p d Q M hp hz r hd h => by
    cases hd
    exact ⟨p, vs, rfl, .inl ⟨SqL.of hp, fun q hq => Post.new h M hq (rep_tup (M.newP hq) hz r)⟩⟩) hgl hm hN hvi hd hcd
theorem ee_sortedN (hu : X.A.units + 100 < cLine) (hgl : Gl X "sorted") (hm : X.mg "sorted" = none) (hN : X.N[i]? = some x) (hvi : Vis X.env.scope x) (hd : (x == ("__debug__" : Str)) = false := by decide) (hcd : (x == ("__classdict__" : Str)) = false := by decide) :
    EE X c Wx (.Call (.Name "sorted" p1) [.Name x p2] [] pos) (xOwn i (fun l => (srtL l).map .lst) (purA srtG)) :=
  ee_own (call_srt hu) (by decide +kernel) cd_srt (fun W o σ H e m l vs p d Q M hp hz r hd h => by
    obtain ⟨l', h1, rfl⟩ := Option.map_eq_some_iff.mp hd
    exact srt_of M (SqL.of hp) r h1 h) hgl hm hN hvi hd hcd
/-- x in name, x not in name -/
def xInN (neg : Bool) (f : FE) (i : Nat) : FE := fun e m => (f e m).bind (onX)
where onX : D → Env → MS → R D := fun y => onS i fun e m => match e[i]? with
  | some (some (.ol l)) => fin ((inD y (.lst l)).map fun b => .bl (if neg then !b else b)) e m
  | some (some (.fz d)) => fin ((inD y d).map fun b => .bl (if neg then !b else b)) e m
  | _ => .no
theorem inN_ok {neg : Bool} {W : Wd} {o : Nat → Option Addr} {σ : L2.St} {H : Hp} {e : Env} {m : MS} {y : D} {vy v : V} {Q : VK} (M : Mt X.K X.mg c W o σ H e m) (ry : Rep X.K X.mg W y vy) (hσ : σ[i]? = some (some v))
    (h : Post X.K X.mg c W σ (Rep X.K X.mg) Q Wx (match e[i]? with
      | some (some (.ol l)) => fin ((inD y (.lst l)).map fun b => .bl (if neg then !b else b)) e m
      | some (some (.fz d)) => fin ((inD y d).map fun b => .bl (if neg then !b else b)) e m
      | _ => .no)) : rInQ X.K neg vy v H Q := by
  split at h
  · rename_i l hs
    obtain ⟨p, vs, ho, hv, hp, hz, r⟩ := M.slot hσ hs
    cases hv
    obtain ⟨d, hd, hh⟩ := Post.fin h
    obtain ⟨b, hb, rfl⟩ := Option.map_eq_some_iff.mp hd
    rcases inD_seq hb with ⟨l', p', ps, hy, h1, h2, h3, rfl⟩ | ⟨k, z, rfl, hz, rfl⟩
    · have e1 : l' = l := by
        rcases hy with hy | hy
        · cases hy
        · injection hy with hy
          exact hy.symm
      subst e1
      obtain ⟨p1, p2⟩ := ry.dp M.sub h1
      obtain ⟨q1, q2⟩ := r.dp M.sub h2
      exact .inl ⟨p', ps, p1, .inl (.lst (SqL.of hp) q1), p2, q2, h3, Post.here hh M rfl⟩
    · cases hz
  · rename_i d hs
    obtain ⟨v', hv, r⟩ := M.slot hσ hs
    cases hv
    obtain ⟨d, hd, h⟩ := Post.fin h
    obtain ⟨b, hb, rfl⟩ := Option.map_eq_some_iff.mp hd
    rcases inD_seq hb with ⟨l, p, ps, hy, h1, h2, h3, rfl⟩ | ⟨k, z, rfl, rfl, rfl⟩
    · obtain ⟨p1, p2⟩ := ry.dp M.sub h1
      obtain ⟨q1, q2⟩ := dp_seq M.sub r hy h2
      exact .inl ⟨p, ps, p1, q1, p2, q2, h3, Post.here h M rfl⟩
    · obtain ⟨rfl, _⟩ := ry
      obtain ⟨rfl, _⟩ := r
      exact .inr ⟨k, z, rfl, rfl, Post.here h M rfl⟩
  · exact h.elim
theorem ee_inN (hu : X.A.units + 100 < cLine) (ha : EE X c Wx a fa) (hN : X.N[i]? = some x) (hvi : Vis X.env.scope x) (hd : (x == ("__debug__" : Str)) = false := by decide) (hcd : (x == ("__classdict__" : Str)) = false := by decide) : EE X c Wx (.Compare a [.In] [.Name x p2] pos) (xInN false fa i) :=
  (pe_cmpR (op_inQ hu) ha (pe_var hN hvi hd hcd) rfl).impQ fun σ H Q ⟨W, o, e, m, M, h⟩ => ⟨W, o, e, m, M, (Post.bind h).mono fun v H1 ⟨W1, o1, e1, m1, d1, u1, M1, r1, h1⟩ => by
    obtain ⟨v2, hσ, h1⟩ := Post.onS M1 h1
    exact ⟨v2, hσ, inN_ok M1 r1 hσ h1⟩⟩
theorem ee_niN (hu : X.A.units + 100 < cLine) (ha : EE X c Wx a fa) (hN : X.N[i]? = some x) (hvi : Vis X.env.scope x) (hd : (x == ("__debug__" : Str)) = false := by decide) (hcd : (x == ("__classdict__" : Str)) = false := by decide) : EE X c Wx (.Compare a [.NotIn] [.Name x p2] pos) (xInN true fa i) :=
  (pe_cmpR (op_niQ hu) ha (pe_var hN hvi hd hcd) rfl).impQ fun σ H Q ⟨W, o, e, m, M, h⟩ => ⟨W, o, e, m, M, (Post.bind h).mono fun v H1 ⟨W1, o1, e1, m1, d1, u1, M1, r1, h1⟩ => by
    obtain ⟨v2, hσ, h1⟩ := Post.onS M1 h1
    exact ⟨v2, hσ, inN_ok M1 r1 hσ h1⟩⟩
end
end
end Qd
end
section
set_option Elab.async false
set_option linter.all false
set_option autoImplicit false
set_option maxRecDepth 100000

namespace Qd
open PySem PySem.Spec PyProof.Rows L2

/-! ### what is walked -/
section
variable (K : PySem.W.Frag) (mg : Str → Option Value)
/-- what a turn yields: data that stands, or a new object -/
def YldOk (W : Wd) (H' : Hp) (d : D) (x : V) (H'' : Hp) : Prop :=
  (H'' = H' ∧ Rep K mg W d x) ∨ ∃ T u, x = .ref T ∧ H' T = none ∧ H'' = upd H' T u ∧ ∀ W1, Up W W1 → W1.P T = none → Rep K mg (W1.put T u) d (.ref T)
def WalkD (W : Wd) (ds : List D) (J : It) : Prop :=
  (∀ (i : Nat) (d : D) (H' : Hp), (∀ a o, W.P a = some o → H' a = some o) → ds[i]? = some d → J.go i H' ∧ ∀ x H'', J.yld i H' x H'' → YldOk K mg W H' d x H'') ∧
    ∀ (i : Nat) (H' : Hp), (∀ a o, W.P a = some o → H' a = some o) → ds.length ≤ i → J.stop i H'
def RpW (W : Wd) (ds : List D) (J : It) : Prop := WalkD K mg W ds J ∧ ds.length ≤ sizeLine
def tI (c : C0) (Wx : WX) (f : FA) : TI := fun σ H Q => ∃ W o e m, Mt K mg c W o σ H e m ∧ Post K mg c W σ (RpW K mg) Q Wx (f e m)
end
abbrev EI (X : Cx) (c : C0) (Wx : WX) (tg x : Expr) (f : FA) : Prop := PI X tg x (tI X.K X.mg c Wx f)
theorem _root_.L2.PI.impQ {X : Cx} {tg x : Expr} {t t' : TI} (h : PI X tg x t) (k : ∀ σ H Q, t' σ H Q → t σ H Q) : PI X tg x t' := ⟨fun pins s σ H Q I q => h.run pins s σ H Q I (k _ _ _ q)⟩
section
variable {K : PySem.W.Frag} {mg : Str → Option Value} {W W1 : Wd} {c : C0} {o : Nat → Option Addr} {σ : L2.St} {H H' : Hp} {e : Env} {m : MS}
/-- behind a yield -/
theorem Mt.yld {d : D} {x : V} (M : Mt K mg c W1 o σ H e m) (u : Up W W1) (y : YldOk K mg W H d x H') : ∃ W2, Up W1 W2 ∧ Mt K mg c W2 o σ H' e m ∧ Rep K mg W2 d x := by
  rcases y with ⟨rfl, r⟩ | ⟨T, ob, rfl, hT, rfl, r⟩
  · exact ⟨W1, Up.refl W1, M, r.up u⟩
  · exact ⟨W1.put T ob, up_put (M.newP hT), M.lay ob hT, r W1 u (M.newP hT)⟩
theorem Rd.inj {H : Hp} {a : Addr} {u v : HO} (h : Rd H a u) (k : Rd H a v) (hu : ∀ o w, u ≠ .frz o w) (hv : ∀ o w, v ≠ .frz o w) : u = v := by
  rcases h with h | ⟨o, h⟩
  · rcases k with k | ⟨o', k⟩
    · rw [h] at k; exact Option.some.inj k
    · rw [h] at k; exact absurd (Option.some.inj k) (hu _ _)
  · rcases k with k | ⟨o', k⟩
    · rw [h] at k; exact absurd (Option.some.inj k).symm (hv _ _)
    · rw [h] at k
      have := Option.some.inj k
      cases this
      rfl
end
section
variable {X : Cx} {c : C0} {Wx : WX} {a b tg : Expr} {fa fb : FE} {ft fu : FT} {pos : Pos}
/-- a list, a tuple, a text by value -/
def iAny (K : PySem.W.Frag) (tl : TE) : TI := fun σ H R => tl σ H fun x H1 => (∃ a, x = .ref a ∧ (∃ xs, SqL K H1 a xs) ∧ R (Itl K a) H1) ∨ (∃ a, x = .ref a ∧ (∃ xs, SqT K H1 a xs) ∧ R (Itt K a) H1) ∨ ∃ z, x = .str z ∧ R (Its z) H1
theorem pi_any {l : Expr} {tl : TE} (hl : PE X l tl) : PI X tg l (iAny X.K tl) := by
  refine ⟨fun pins s σ H R I h => ?_⟩
  refine thn (hl.run pins s σ H _ I h) fun v s1 ⟨x, H1, I1, r1, q1⟩ => ?_
  rcases q1 with ⟨a, e, ⟨xs, hq⟩, q⟩ | ⟨a, e, ⟨xs, hq⟩, q⟩ | ⟨z, e, q⟩
  · subst e
    cases r1
    obtain ⟨its, rv, p, hz⟩ := I1.list hq
    refine wpAny_pyIter_list p.isList ?_
    refine ⟨s1.heap.objs.size, [s1.heap.objs.size], _, _, H1, rfl, I1.kept (t' := s1.toks) fun b o e => Heap.get?_push_of_some _ e, turn_list a _, ⟨_, Heap.get?_push_size _ rfl, rfl, rfl⟩, fun b hb => ?_, q⟩
    have e : b = s1.heap.objs.size := by simpa using hb
    subst e
    exact I1.fpOk (Nat.le_refl _) (I1.hok.fresh (Nat.le_refl _))
  · subst e
    cases r1
    obtain ⟨its, rv, p, hz⟩ := I1.tuple hq
    refine wpAny_pyIter_tuple (show s1.heap.IsTuple a its.toArray from p) ?_
    refine ⟨s1.heap.objs.size, [s1.heap.objs.size], _, _, H1, rfl, I1.kept (t' := s1.toks) fun b o e => Heap.get?_push_of_some _ e, turn_tuple a _, ⟨_, Heap.get?_push_size _ rfl, rfl, rfl⟩, fun b hb => ?_, q⟩
    have e : b = s1.heap.objs.size := by simpa using hb
    subst e
    exact I1.fpOk (Nat.le_refl _) (I1.hok.fresh (Nat.le_refl _))
  · subst e
    obtain ⟨t, rfl⟩ := r1
    cases ha : z.cps.all (· < 128)
    · exact wpAny_pyIter_wide ha (pi_one (tk := s1.toks) I1 _ (turn_str _ z t "str_iterator" (.inr rfl)) ⟨_, Heap.get?_push_size _ rfl, rfl, rfl⟩ q)
    · exact wpAny_pyIter_ascii ha (pi_one (tk := s1.toks) I1 _ (turn_str _ z t "str_ascii_iterator" (.inl rfl)) ⟨_, Heap.get?_push_size _ rfl, rfl, rfl⟩ q)
def signsD (z : Str) : List D := z.cps.toList.map fun k => .str ⟨#[k]⟩
def itemsD : D → Env → MS → R (List D) := fun d e m => match d with
  | .lst l => .ok l e m
  | .tup l => .ok l e m
  | .scr l => .ok (l.map .int) e m
  | .str z => .ok (signsD z) e m
  | _ => .no
theorem walk_lst {W : Wd} {p : Addr} {vs : List V} {l : List D} (hp : SqL X.K W.P p vs) (r : Reps X.K X.mg W l vs) : WalkD X.K X.mg W l (Itl X.K p) := by
  refine ⟨fun i d H' hs hi => ?_, fun i H' hs hi => ⟨vs, sql_up hs hp, by rw [← r.len]; exact hi⟩⟩
  obtain ⟨v, hv, rv⟩ := r.get hi
  refine ⟨⟨vs, v, sql_up hs hp, hv⟩, fun x H'' ⟨e, k⟩ => .inl ⟨e, ?_⟩⟩
  have := k vs (sql_up hs hp)
  rw [hv] at this
  cases this
  exact rv
theorem walk_tup {W : Wd} {p : Addr} {vs : List V} {l : List D} (hp : SqT X.K W.P p vs) (up : ∀ H' : Hp, (∀ a o, W.P a = some o → H' a = some o) → SqT X.K H' p vs) (r : Reps X.K X.mg W l vs) : WalkD X.K X.mg W l (Itt X.K p) := by
  refine ⟨fun i d H' hs hi => ?_, fun i H' hs hi => ⟨vs, up H' hs, by rw [← r.len]; exact hi⟩⟩
  obtain ⟨v, hv, rv⟩ := r.get hi
  refine ⟨⟨vs, v, up H' hs, hv⟩, fun x H'' ⟨e, k⟩ => .inl ⟨e, ?_⟩⟩
  have := k vs (up H' hs)
  rw [hv] at this
  cases this
  exact rv
theorem ei_any (ha : EE X c Wx a fa) : EI X c Wx tg a (fun e m => (fa e m).bind itemsD) :=
  (pi_any ha).impQ fun σ H Q ⟨W, o, e, m, M, h⟩ => ⟨W, o, e, m, M, (Post.bind (Rp := Rep X.K X.mg) h).mono fun v H1 ⟨W1, o1, e1, m1, d1, u1, M1, r1, h1⟩ => by
    unfold itemsD at h1
    cases d1 with
    | lst l =>
      obtain ⟨p, vs, rfl, hp, hzr, r⟩ := r1
      exact .inl ⟨p, rfl, ⟨vs, SqL.of (M1.sub _ _ hp)⟩, Post.here (Rp := RpW X.K X.mg) h1 M1 ⟨walk_lst (SqL.of hp) r, hzr⟩⟩
    | tup l =>
      obtain ⟨p, vs, rfl, hp, hzr, r⟩ := r1
      exact .inr (.inl ⟨p, rfl, ⟨vs, SqT.of (M1.sub _ _ hp)⟩, Post.here (Rp := RpW X.K X.mg) h1 M1 ⟨walk_tup (SqT.of hp) (fun H' hs => SqT.of (hs _ _ hp)) r, hzr⟩⟩)
    | scr l =>
      obtain ⟨p, rfl, hp, hz⟩ := r1
      exact .inl ⟨p, rfl, ⟨_, sql_up M1.sub hp⟩, Post.here (Rp := RpW X.K X.mg) h1 M1 ⟨walk_lst hp (reps_ints _), by rw [List.length_map]; exact hz⟩⟩
    | str z =>
      obtain ⟨rfl, hz⟩ := r1
      refine .inr (.inr ⟨z, rfl, Post.here (Rp := RpW X.K X.mg) h1 M1 ⟨⟨fun i d H' hs hi => ?_, fun i H' hs hi => ?_⟩, by unfold signsD; rw [List.length_map]; have := okS_len hz; simpa [Str.length] using this⟩⟩)
      · unfold signsD at hi
        rw [List.getElem?_map] at hi
        obtain ⟨k, hk, rfl⟩ := Option.map_eq_some_iff.mp hi
        have hk' : z.cps[i]? = some k := by simpa using hk
        refine ⟨?_, fun x H'' ⟨e, k', h1, h2⟩ => .inl ⟨e, ?_⟩⟩
        · show i < z.cps.size
          exact (Array.getElem?_eq_some_iff.mp hk').1
        · rw [hk'] at h1
          cases h1
          exact ⟨h2, okS_sign hz (List.mem_of_getElem? hk)⟩
      · show z.cps.size ≤ i
        unfold signsD at hi
        simpa using hi
    | _ => exact h1.elim⟩
def rangeD (lo hi : Int) : List D := (List.range (hi - lo).toNat).map fun i => .int (lo + (i : Nat))
theorem rangeD_len (lo hi : Int) : (rangeD lo hi).length = (hi - lo).toNat := by
  unfold rangeD
  rw [List.length_map, List.length_range]
theorem walk_range {W : Wd} (lo hi : Int) : WalkD X.K X.mg W (rangeD lo hi) (Itr lo (hi - lo).toNat) := by
  have hl : (rangeD lo hi).length = (hi - lo).toNat := by
    unfold rangeD
    rw [List.length_map, List.length_range]
  refine ⟨fun i d H' hs h => ?_, fun i H' hs h => ?_⟩
  · have hi : i < (hi - lo).toNat := by
      rw [← hl]
      exact (List.getElem?_eq_some_iff.mp h).1
    refine ⟨hi, fun x H'' ⟨e1, e2⟩ => .inl ⟨e1, ?_⟩⟩
    unfold rangeD at h
    rw [List.getElem?_map, List.getElem?_range hi] at h
    cases h
    exact e2
  · rw [hl] at h
    exact h
def rng1G : List D → Env → MS → R (List D) := fun ds e m => match ds with
  | [.int n] => if -(2 ^ 62) ≤ n ∧ n ≤ 16777216 then .ok (rangeD 0 n) e m else .no
  | _ => .no
def rng2G : List D → Env → MS → R (List D) := fun ds e m => match ds with
  | [.int i, .int j] => if 0 ≤ i ∧ i ≤ 16777216 ∧ -(2 ^ 62) ≤ j ∧ j ≤ 16777216 then .ok (rangeD i j) e m else .no
  | _ => .no
theorem ei_range1 {p : Pos} {f : FA} (hg : Gl X "range") (hm : X.mg "range" = none) (ha : EA X c Wx [a] f) (hs : starEach [a] X.env = [(false, eval a X.env)] := by rfl) : EI X c Wx tg (.Call (.Name "range" p) [a] [] pos) (fun e m => (f e m).bind rng1G) :=
  (pi_range1 hg hm ha hs).impQ fun σ H Q ⟨W, o, e, m, M, h⟩ => ⟨W, o, e, m, M, (Post.bind (Rp := Reps X.K X.mg) h).mono fun v H1 ⟨W1, o1, e1, m1, d1, u1, M1, r1, h1⟩ => by
    unfold rng1G at h1
    split at h1
    · rename_i n
      split at h1
      · rename_i hc
        obtain ⟨w, rfl, rfl⟩ := r1.one_inv
        refine ⟨n, rfl, hc.1, by omega, Post.here (Rp := RpW X.K X.mg) h1 M1 ⟨?_, by rw [rangeD_len]; show _ ≤ 16777216; omega⟩⟩
        have := walk_range (X := X) (W := W1) 0 n
        rwa [Int.sub_zero] at this
      · exact h1.elim
    · exact h1.elim⟩
theorem ei_range2 {p : Pos} {f : FA} (hg : Gl X "range") (hm : X.mg "range" = none) (ha : EA X c Wx [a, b] f) (hs : starEach [a, b] X.env = [(false, eval a X.env), (false, eval b X.env)] := by rfl) (hs2 : starEach [b] X.env = [(false, eval b X.env)] := by rfl) :
    EI X c Wx tg (.Call (.Name "range" p) [a, b] [] pos) (fun e m => (f e m).bind rng2G) :=
  (pi_range2 hg hm ha hs hs2).impQ fun σ H Q ⟨W, o, e, m, M, h⟩ => ⟨W, o, e, m, M, (Post.bind (Rp := Reps X.K X.mg) h).mono fun v H1 ⟨W1, o1, e1, m1, d1, u1, M1, r1, h1⟩ => by
    unfold rng2G at h1
    split at h1
    · rename_i i j
      split at h1
      · rename_i hc
        obtain ⟨w, w', rfl, rfl, rfl⟩ := r1.two_inv
        exact ⟨i, j, rfl, ⟨by omega, by omega, by omega, by omega⟩, Post.here (Rp := RpW X.K X.mg) h1 M1 ⟨walk_range i j, by rw [rangeD_len]; show _ ≤ 16777216; omega⟩⟩
      · exact h1.elim
    · exact h1.elim⟩
/-- zip of two lists, of two tuples: pairs -/
def zipD : List D → List D → List D
  | x :: xs, y :: ys => .tup [x, y] :: zipD xs ys
  | _, _ => []
theorem zipD_len : ∀ (xs ys : List D), (zipD xs ys).length = min xs.length ys.length
  | [], ys => by simp [zipD]
  | x :: xs, [] => by simp [zipD]
  | x :: xs, y :: ys => by simp [zipD, zipD_len xs ys]
theorem zipD_get : ∀ {xs ys : List D} {i : Nat} {d : D}, (zipD xs ys)[i]? = some d → ∃ x y, xs[i]? = some x ∧ ys[i]? = some y ∧ d = .tup [x, y]
  | [], ys, i, d, h => by simp [zipD] at h
  | x :: xs, [], i, d, h => by simp [zipD] at h
  | x :: xs, y :: ys, 0, d, h => by
    have e : D.tup [x, y] = d := by simpa [zipD] using h
    exact ⟨x, y, rfl, rfl, e.symm⟩
  | x :: xs, y :: ys, i + 1, d, h => by
    have e : (zipD xs ys)[i]? = some d := by simpa [zipD] using h
    obtain ⟨a, b, h1, h2, h3⟩ := zipD_get e
    exact ⟨a, b, by simpa using h1, by simpa using h2, h3⟩
def zipG : List D → Env → MS → R (List D) := fun ds e m => match ds with
  | [.lst xs, .lst ys] => .ok (zipD xs ys) e m
  | [.tup xs, .tup ys] => .ok (zipD xs ys) e m
  | _ => .no
theorem ei_zip {p tpos : Pos} {elts : List Expr} {kk : Nat} {f : FA} (hg : Gl X "zip") (hm : X.mg "zip" = none) (ha : EA X c Wx [a, b] f) (hs : starEach [a, b] X.env = (false, eval a X.env) :: starEach [b] X.env := by rfl)
    (hpl : (backTo pos (starEach [b] X.env)).any (·.1) = false := by rfl) : EI X c Wx (.Tuple elts kk tpos) (.Call (.Name "zip" p) [a, b] [] pos) (fun e m => (f e m).bind zipG) :=
  (RZ.pi_zipA hg hm ha hs hpl).impQ fun σ H Q ⟨W, o, e, m, M, h⟩ => ⟨W, o, e, m, M, (Post.bind (Rp := Reps X.K X.mg) h).mono fun v H1 ⟨W1, o1, e1, m1, d1, u1, M1, r1, h1⟩ => by
    have pair : ∀ {xs ys : List D} {vs ws : List V} {i : Nat} {d : D}, Reps X.K X.mg W1 xs vs → Reps X.K X.mg W1 ys ws → (zipD xs ys)[i]? = some d → ∃ x y, vs[i]? = some x ∧ ws[i]? = some y ∧
        ∀ T W2, Up W1 W2 → W2.P T = none → Rep X.K X.mg (W2.put T (.tup [x, y])) d (.ref T) := fun {xs ys vs ws i d} r r' hd => by
      obtain ⟨x, y, h1, h2, rfl⟩ := zipD_get hd
      obtain ⟨vx, a1, a2⟩ := r.get h1
      obtain ⟨vy, b1, b2⟩ := r'.get h2
      exact ⟨vx, vy, a1, b1, fun T W2 u hT => rep_tup hT (by show 2 ≤ sizeLine; decide) ⟨_, _, rfl, a2.up u, _, _, rfl, b2.up u, rfl⟩⟩
    unfold zipG at h1
    split at h1
    · rename_i xs ys
      obtain ⟨w, w', rfl, q1, q2⟩ := r1.two_inv
      obtain ⟨p, vs, rfl, hp, hzr, r⟩ := q1
      obtain ⟨p', ws, rfl, hp', hzr', r'⟩ := q2
      refine ⟨p, p', vs, ws, rfl, .inl ⟨SqL.of (M1.sub _ _ hp), SqL.of (M1.sub _ _ hp'), Post.here (Rp := RpW X.K X.mg) h1 M1 ⟨⟨fun i d H' hs hi => ?_, fun i H' hs hi => ?_⟩, by rw [zipD_len]; omega⟩⟩⟩
      · obtain ⟨x, y, e1, e2, k⟩ := pair r r' hi
        refine ⟨⟨vs, ws, x, y, SqL.of (hs _ _ hp), SqL.of (hs _ _ hp'), e1, e2⟩, fun z H'' ⟨T, x', y', ez, hT, eH, k1, k2⟩ => ?_⟩
        have f1 := k1 vs (SqL.of (hs _ _ hp))
        have f2 := k2 ws (SqL.of (hs _ _ hp'))
        rw [e1] at f1
        rw [e2] at f2
        cases f1
        cases f2
        exact .inr ⟨T, _, ez, hT, eH, fun W2 u hW => k T W2 u hW⟩
      · rw [zipD_len] at hi
        exact ⟨vs, ws, SqL.of (hs _ _ hp), SqL.of (hs _ _ hp'), by rw [← r.len, ← r'.len]; omega⟩
    · rename_i xs ys
      obtain ⟨w, w', rfl, q1, q2⟩ := r1.two_inv
      obtain ⟨p, vs, rfl, hp, hzr, r⟩ := q1
      obtain ⟨p', ws, rfl, hp', hzr', r'⟩ := q2
      refine ⟨p, p', vs, ws, rfl, .inr ⟨SqT.of (M1.sub _ _ hp), SqT.of (M1.sub _ _ hp'), Post.here (Rp := RpW X.K X.mg) h1 M1 ⟨⟨fun i d H' hs hi => ?_, fun i H' hs hi => ?_⟩, by rw [zipD_len]; omega⟩⟩⟩
      · obtain ⟨x, y, e1, e2, k⟩ := pair r r' hi
        refine ⟨⟨vs, ws, x, y, SqT.of (hs _ _ hp), SqT.of (hs _ _ hp'), e1, e2⟩, fun z H'' ⟨T, x', y', ez, hT, eH, k1, k2⟩ => ?_⟩
        have f1 := k1 vs (SqT.of (hs _ _ hp))
        have f2 := k2 ws (SqT.of (hs _ _ hp'))
        rw [e1] at f1
        rw [e2] at f2
        cases f1
        cases f2
        exact .inr ⟨T, _, ez, hT, eH, fun W2 u hW => k T W2 u hW⟩
      · rw [zipD_len] at hi
        exact ⟨vs, ws, SqT.of (hs _ _ hp), SqT.of (hs _ _ hp'), by rw [← r.len, ← r'.len]; omega⟩
    · exact h1.elim⟩

/-! ### targets -/
/-- two slot rows that are the same off T -/
def Off (T : List Nat) (σ σ' : L2.St) : Prop := σ'.length = σ.length ∧ ∀ i, i ∉ T → σ'[i]? = σ[i]?
theorem Off.refl (T : List Nat) (σ : L2.St) : Off T σ σ := ⟨rfl, fun _ _ => rfl⟩
theorem Off.trans {T1 T2 : List Nat} {σ σ1 σ2 : L2.St} (h : Off T1 σ σ1) (k : Off T2 σ1 σ2) : Off (T1 ++ T2) σ σ2 :=
  ⟨k.1.trans h.1, fun i hi => (k.2 i fun z => hi (List.mem_append_right _ z)).trans (h.2 i fun z => hi (List.mem_append_left _ z))⟩
theorem Off.set {i : Nat} {σ : L2.St} {x : Option V} : Off [i] σ (σ.set i x) :=
  ⟨List.length_set .., fun j hj => List.getElem?_set_ne (by intro e; exact hj (by simp [e]))⟩
abbrev FG := D → Env → Option Env
def tG (K : PySem.W.Frag) (mg : Str → Option Value) (c : C0) (T : List Nat) (f : FG) : TG := fun v σ H Q => ∃ W o e m d, Mt K mg c W o σ H e m ∧ Rep K mg W d v ∧ ∃ e', f d e = some e' ∧ ∀ o' σ', Off T σ σ' → Mt K mg c W o' σ' H e' m → Q σ' H
def tGs (K : PySem.W.Frag) (mg : Str → Option Value) (c : C0) (T : List Nat) (f : List D → Env → Option Env) : TGs := fun vs σ H Q => ∃ W o e m ds, Mt K mg c W o σ H e m ∧ Reps K mg W ds vs ∧ ∃ e', f ds e = some e' ∧ ∀ o' σ', Off T σ σ' → Mt K mg c W o' σ' H e' m → Q σ' H
abbrev EG (X : Cx) (c : C0) (tg : Expr) (T : List Nat) (f : FG) : Prop := PG X tg (tG X.K X.mg c T f)
abbrev EGs (X : Cx) (c : C0) (tgs : List Expr) (T : List Nat) (f : List D → Env → Option Env) : Prop := PGs X tgs (tGs X.K X.mg c T f)
theorem _root_.L2.PG.impQ {X : Cx} {x : Expr} {t t' : TG} (h : PG X x t) (k : ∀ v σ H Q, t' v σ H Q → t v σ H Q) : PG X x t' := ⟨fun pins s σ H v u Q I r q => h.run pins s σ H v u Q I r (k _ _ _ _ q)⟩
theorem _root_.L2.PGs.impQ {X : Cx} {x : List Expr} {t t' : TGs} (h : PGs X x t) (k : ∀ v σ H Q, t' v σ H Q → t v σ H Q) : PGs X x t' := ⟨fun pins s σ H v u Q I r q => h.run pins s σ H v u Q I r (k _ _ _ _ q)⟩
def gN (i : Nat) : FG := fun d e => some (e.set i (some (.fz d)))
def gsNil : List D → Env → Option Env := fun ds e => match ds with
  | [] => some e
  | _ => none
def gsCons (f : FG) (g : List D → Env → Option Env) : List D → Env → Option Env := fun ds e => match ds with
  | d :: r => (f d e).bind fun e => g r e
  | [] => none
def gT (n : Nat) (g : List D → Env → Option Env) : FG := fun d e => match d with
  | .tup l => if l.length = n then g l e else none
  | _ => none
theorem eg_name {i : Nat} {x : Str} (hN : X.N.Nodup) (hi : X.N[i]? = some x) (hx : Loc X.env.scope x) (hf : X.fn x = true ∨ X.env.scope.names.lookup x = some .local := by first | exact .inl rfl | exact .inr rfl | assumption) : EG X c (.Name x pos) [i] (gN i) :=
  (pg_name hN hi hx hf).impQ fun v σ H Q ⟨W, o, e, m, d, M, r, e', he, k⟩ => by
    cases he
    exact k _ _ .set (M.setF r)
theorem egs_nil : EGs X c [] [] gsNil := pgs_nil.impQ fun v σ H Q ⟨W, o, e, m, ds, M, r, e', he, k⟩ => by
  cases ds with
  | nil =>
    cases he
    exact ⟨r, k o σ (.refl _ _) M⟩
  | cons d ds => cases he
theorem egs_cons {t : Expr} {ts : List Expr} {T1 T2 : List Nat} {f : FG} {g : List D → Env → Option Env} (h1 : EG X c t T1 f) (h2 : EGs X c ts T2 g) (hs : (assignEach (t :: ts) X.env).map (·.2) = assign t X.env :: (assignEach ts X.env).map (·.2) := by rfl) : EGs X c (t :: ts) (T1 ++ T2) (gsCons f g) :=
  (pgs_cons h1 h2 hs).impQ fun vs σ H Q ⟨W, o, e, m, ds, M, r, e', he, k⟩ => by
    cases ds with
    | nil => cases he
    | cons d ds =>
      obtain ⟨v, vr, rfl, r1, r2⟩ := r
      obtain ⟨e1, he1, he2⟩ := Option.bind_eq_some_iff.mp he
      exact ⟨v, vr, rfl, W, o, e, m, d, M, r1, e1, he1, fun o' σ' h1 M' => ⟨W, o', e1, m, ds, M', r2, e', he2, fun o2 σ2 h2 M2 => k o2 σ2 (h1.trans h2) M2⟩⟩
theorem eg_tup {ts : List Expr} {kk n : Nat} {T : List Nat} {g : List D → Env → Option Env} (hc : X.calm = true) (h : EGs X c ts T g) (hn : (assignEach ts X.env).length = n := by rfl) (hst : (assignEach ts X.env).findIdx? (·.1) = none := by rfl) : EG X c (.Tuple ts kk pos) T (gT n g) :=
  (pg_tup hc h hn hst).impQ fun v σ H Q ⟨W, o, e, m, d, M, r, e', he, k⟩ => by
    unfold gT at he
    cases d with
    | tup l =>
      simp only at he
      split at he
      · rename_i hl
        obtain ⟨p, vs, rfl, hp, hzr, r⟩ := r
        exact ⟨p, vs, rfl, SqT.of (M.sub _ _ hp), by rw [← r.len]; exact hl, W, o, e, m, l, M, r, e', he, k⟩
      · cases he
    | _ => cases he

/-! ### for -/
def clr (l : List Nat) (e : Env) : Env := l.foldl (fun e i => e.set i none) e
theorem Mt.clr {K : PySem.W.Frag} {mg : Str → Option Value} {W : Wd} {σ : L2.St} {H : Hp} {m : MS} : ∀ (l : List Nat) {e : Env} {o : Nat → Option Addr}, Mt K mg c W o σ H e m → ∃ o', Mt K mg c W o' σ H (clr l e) m
  | [], e, o, M => ⟨o, M⟩
  | i :: l, e, o, M => Mt.clr l M.forget
def runFor (t : FG) (cl : List Nat) (body : FS) : List D → Env → MS → U
  | [], e, m => .nx e m
  | d :: ds, e, m => match t d e with
    | none => .no
    | some e1 => match body e1 m with
      | .nx e2 m2 => runFor t cl body ds (clr cl e2) m2
      | .ct e2 m2 => runFor t cl body ds (clr cl e2) m2
      | .bk e2 m2 => .nx e2 m2
      | .rt d e2 m2 => .rt d e2 m2
      | .ex n ns vs e2 m2 => .ex n ns vs e2 m2
      | .no => .no
def sFor (f : FA) (t : FG) (cl : List Nat) (body : FS) : FS := fun e m => (f e m).thn fun ds e m => runFor t cl body ds e m
theorem ss_for {body : List Stmt} {f : FA} {t : FG} {fb : FS} (cl : List Nat) (hp : PassesOwn (model X.prog X.w) X.A X.env X.xe) (hc : X.calm = true) (hi : EI X c Wx tg a f) {T : List Nat} (hg : EG X c tg T t) (hb : SSs X c Wx body fb)
    (hs : ∀ x, foldedSetIterable a X.env x = pure x := by intro _; rfl) : SS X c Wx (.For tg a body [] pos) (sFor f t cl fb) :=
  (ps_for hp hc hi hg hb hs).impQ fun Dn σ H ⟨W, o, e, m, M, h⟩ => ⟨W, o, e, m, M, (PostS.thn h).mono fun J H1 ⟨W1, o1, e1, m1, ds, u1, M1, wk, h1⟩ => by
    obtain ⟨⟨w1, w2⟩, wl⟩ := (show WalkD X.K X.mg W1 ds J ∧ ds.length ≤ sizeLine from wk)
    refine ⟨fun i n σ H => i + n = ds.length ∧ ∃ W2 o2 e2 m2, Up W1 W2 ∧ Mt X.K X.mg c W2 o2 σ H e2 m2 ∧ PostS X.K X.mg c W2 Dn Wx (runFor t cl fb (ds.drop i) e2 m2),
      ⟨ds.length, by omega, W1, o1, e1, m1, Up.refl W1, M1, h1⟩, fun i n σ H ⟨hn, W2, o2, e2, m2, u2, M2, h2⟩ => ?_⟩
    have hs2 : ∀ a o, W1.P a = some o → H a = some o := fun a o z => M2.sub a o (u2.P a o z)
    by_cases hi : i < ds.length
    · obtain ⟨d, hd⟩ : ∃ d, ds[i]? = some d := ⟨ds[i], List.getElem?_eq_getElem hi⟩
      obtain ⟨g1, g2⟩ := w1 i d H hs2 hd
      have ed : ds.drop i = d :: ds.drop (i + 1) := by
        rw [List.drop_eq_getElem_cons hi]
        rw [List.getElem?_eq_getElem hi] at hd
        cases hd
        rfl
      rw [ed] at h2
      refine .inr ⟨g1, fun σ' H' => ∃ W2 o2 e2 m2, Up W1 W2 ∧ Mt X.K X.mg c W2 o2 σ' H' e2 m2 ∧ PostS X.K X.mg c W2 Dn Wx (runFor t cl fb (ds.drop (i + 1)) e2 m2), fun σ' H' k => ⟨n - 1, by omega, by omega, k⟩, fun x H' y => ?_⟩
      obtain ⟨W3, u3, M3, r3⟩ := M2.yld u2 (g2 x H' y)
      unfold runFor at h2
      split at h2
      · exact h2.elim
      · rename_i e3 he3
        refine ⟨W3, o2, e2, m2, d, M3, r3, e3, he3, fun o' σ' _ M4 => ⟨W3, o', e3, m2, M4, ?_⟩⟩
        cases q : fb e3 m2 with
        | nx e5 m5 =>
          rw [q] at h2
          intro W5 o5 σ5 H5 u5 M5
          obtain ⟨o6, M6⟩ := M5.clr cl
          exact ⟨W5, o6, _, m5, (u2.trans u3).trans u5, M6, PostS.up (u3.trans u5) h2⟩
        | ct e5 m5 =>
          rw [q] at h2
          intro W5 o5 σ5 H5 u5 M5
          obtain ⟨o6, M6⟩ := M5.clr cl
          exact ⟨W5, o6, _, m5, (u2.trans u3).trans u5, M6, PostS.up (u3.trans u5) h2⟩
        | bk e5 m5 =>
          rw [q] at h2
          exact PostS.up u3 h2
        | rt d5 e5 m5 =>
          rw [q] at h2
          exact PostS.up u3 h2
        | ex n5 ns5 vs5 e5 m5 =>
          rw [q] at h2
          exact PostS.up u3 h2
        | no =>
          rw [q] at h2
          exact h2.elim
    · refine .inl ⟨w2 i H hs2 (by omega), ?_⟩
      rw [List.drop_of_length_le (by omega)] at h2
      exact h2 W2 o2 σ H (Up.refl W2) M2⟩
end
end Qd
end
section
set_option Elab.async false
set_option linter.all false
set_option autoImplicit false
set_option maxRecDepth 100000

/-! List comprehensions by functions. -/
namespace Qd
open PySem PySem.Spec PyProof.Rows L2

/-- the slots of a block's own names forgotten -/
def clw : List Nat → Env → Env
  | [], e => e
  | v :: vs, e => (clw vs e).set v none
/-- and told again -/
def rst (e0 : Env) : List Nat → Env → Env
  | [], e => e
  | v :: vs, e => (rst e0 vs e).set v (e0.getD v none)
def okW (e : Env) : List Nat → Bool
  | [] => true
  | v :: vs => (match e[v]? with
    | some (some (.fz _)) => true
    | some none => true
    | _ => false) && okW e vs
theorem clw_len (e : Env) : ∀ vs : List Nat, (clw vs e).length = e.length
  | [] => rfl
  | v :: vs => by unfold clw; rw [List.length_set, clw_len e vs]
theorem rst_len (e0 e : Env) : ∀ vs : List Nat, (rst e0 vs e).length = e.length
  | [] => rfl
  | v :: vs => by unfold rst; rw [List.length_set, rst_len e0 e vs]
theorem clw_some {e : Env} {i : Nat} {s : Sl} : ∀ {vs : List Nat}, (clw vs e)[i]? = some (some s) → e[i]? = some (some s) ∧ i ∉ vs
  | [], h => ⟨h, by simp⟩
  | v :: vs, h => by
    unfold clw at h
    by_cases q : v = i
    · subst q
      rw [List.getElem?_set] at h
      simp at h
    · rw [List.getElem?_set_ne q] at h
      obtain ⟨h1, h2⟩ := clw_some h
      exact ⟨h1, by simp only [List.mem_cons, not_or]; exact ⟨Ne.symm q, h2⟩⟩
theorem clw_out {e : Env} {i : Nat} : ∀ {vs : List Nat}, i ∉ vs → (clw vs e)[i]? = e[i]?
  | [], _ => rfl
  | v :: vs, h => by
    simp only [List.mem_cons, not_or] at h
    unfold clw
    rw [List.getElem?_set_ne (Ne.symm h.1)]
    exact clw_out h.2
theorem rst_some {e0 e : Env} {i : Nat} {s : Sl} : ∀ {vs : List Nat}, (rst e0 vs e)[i]? = some (some s) → (i ∈ vs ∧ e0[i]? = some (some s)) ∨ (i ∉ vs ∧ e[i]? = some (some s))
  | [], h => .inr ⟨by simp, h⟩
  | v :: vs, h => by
    unfold rst at h
    by_cases q : v = i
    · subst q
      rw [List.getElem?_set] at h
      simp only [if_true] at h
      split at h
      · refine .inl ⟨by simp, ?_⟩
        have h := Option.some.inj h
        rw [List.getD_eq_getElem?_getD] at h
        cases z : e0[v]? with
        | none => rw [z] at h; cases h
        | some x => rw [z] at h; rw [show x = some s from h]
      · cases h
    · rw [List.getElem?_set_ne q] at h
      rcases rst_some h with ⟨h1, h2⟩ | ⟨h1, h2⟩
      · exact .inl ⟨by simp [h1], h2⟩
      · exact .inr ⟨by simp only [List.mem_cons, not_or]; exact ⟨Ne.symm q, h1⟩, h2⟩
theorem okW_fz {e : Env} {i : Nat} {s : Sl} : ∀ {vs : List Nat}, okW e vs = true → i ∈ vs → e[i]? = some (some s) → ∃ d, s = .fz d
  | [], _, h, _ => by simp at h
  | v :: vs, ho, h, he => by
    unfold okW at ho
    rw [Bool.and_eq_true] at ho
    rcases List.mem_cons.mp h with z | h
    · subst z
      have h1 := ho.1
      rw [he] at h1
      cases s with
      | fz d => exact ⟨d, rfl⟩
      | _ => cases h1
    · exact okW_fz ho.2 h he
theorem wipe_in {σ : L2.St} {i : Nat} : ∀ {vs : List Nat}, i ∈ vs → (wipe σ vs)[i]? = if i < σ.length then some none else none
  | [], h => by simp at h
  | v :: vs, h => by
    unfold wipe
    by_cases q : v = i
    · subst q
      rw [List.getElem?_set, if_pos rfl, wipe_length]
    · rcases List.mem_cons.mp h with z | h
      · exact absurd z.symm q
      · rw [List.getElem?_set_ne q]
        exact wipe_in h
theorem Off.wipe {T vs : List Nat} {σ σ' : L2.St} (h : Off T σ σ') (k : ∀ i ∈ T, i ∈ vs) : wipe σ' vs = wipe σ vs := by
  apply List.ext_getElem?
  intro i
  by_cases q : i ∈ vs
  · rw [wipe_in q, wipe_in q, h.1]
  · rw [wipe_out q, wipe_out q]
    exact h.2 i fun z => q (k i z)
theorem wipe_wipe {vs vs1 : List Nat} {σ : L2.St} (k : ∀ i ∈ vs1, i ∈ vs) : wipe (wipe σ vs1) vs = wipe σ vs := by
  apply List.ext_getElem?
  intro i
  by_cases q : i ∈ vs
  · rw [wipe_in q, wipe_in q, wipe_length]
  · rw [wipe_out q, wipe_out q, wipe_out fun z => q (k i z)]
section
variable {K : PySem.W.Frag} {mg : Str → Option Value} {c : C0} {W W1 : Wd} {o : Nat → Option Addr} {σ σ' : L2.St} {H H' : Hp} {e e' : Env} {m : MS} {D : Addr} {u u' : HO}
theorem Mt.swap (M : Mt K mg c W o σ H e m) (hl : e'.length = σ'.length) (h : ∀ (i : Nat) (s : Sl), e'[i]? = some (some s) → (e[i]? = some (some s) ∧ σ[i]? = σ'[i]?) ∨ ∃ d v, s = .fz d ∧ σ'[i]? = some (some v) ∧ Rep K mg W d v) :
    Mt K mg c W o σ' H e' m :=
  { M with
    len := hl
    env := fun i s q => by
      rcases h i s q with ⟨h1, h2⟩ | ⟨d, v, rfl, h2, h3⟩
      · obtain ⟨x, h3, h4⟩ := M.env i s h1
        exact ⟨x, h2 ▸ h3, h4⟩
      · exact ⟨_, h2, v, rfl, h3⟩ }
theorem Mt.wiped (M : Mt K mg c W o σ H e m) (vs : List Nat) : Mt K mg c W o (wipe σ vs) H (clw vs e) m :=
  M.swap (by rw [clw_len, wipe_length]; exact M.len) fun i s q => by
    obtain ⟨h1, h2⟩ := clw_some q
    exact .inl ⟨h1, (wipe_out h2).symm⟩
/-- the entry with an object more that must stay -/
def cD (c : C0) (D : Addr) (u : HO) : C0 := ⟨c.P0, c.r0, upd c.H0 D u⟩
structure NewIn (c : C0) (D : Addr) : Prop where
  P : c.P0 D = none
  r : D ∉ c.r0
  H : c.H0 D = none
theorem Mt.newIn (M : Mt K mg c W o σ H e m) (h : H D = none) : NewIn c D where
  P := by
    cases q : c.P0 D with
    | none => rfl
    | some x =>
      rw [M.sub D x (M.p0 D x q)] at h
      cases h
  r := fun z => (M.rP D (M.r0.subset z)).2 h
  H := M.new0 h
theorem Mt.toD (M : Mt K mg c W o σ H e m) (h : H D = none) : Mt K mg (cD c D u) W o σ (upd H D u) e m := by
  have J := M.junk u h
  have hP : W.P D = none := M.newP h
  have hne : ∀ a, a ≠ D → (cD c D u).H0 a = c.H0 a := fun a z => upd_ne z
  refine { J with p0 := J.p0, r0 := J.r0, gP := fun a q => ?_, gr := fun a q => ?_, fr := fun a x q n => ?_, own := fun i a q => ?_ }
  · rcases J.gP a q with z | z
    · exact .inl z
    · refine .inr ?_
      rw [hne a fun y => q (y ▸ hP)]
      exact z
  · rcases J.gr a q with z | z
    · exact .inl z
    · refine .inr ?_
      rw [hne a fun y => M.ne_r h (y ▸ q)]
      exact z
  · by_cases z : a = D
    · subst z
      rw [show (cD c a u).H0 a = some u from upd_same] at q
      rw [upd_same]
      exact q
    · rw [hne a z] at q
      exact J.fr a x q n
  · obtain ⟨h1, h2, h3, h4⟩ := J.own i a q
    exact ⟨h1, h2, by rw [hne a fun y => M.ne_o h i (y ▸ q)]; exact h3, h4⟩
theorem cD_ne {a : Addr} (z : a ≠ D) : (cD c D u).H0 a = c.H0 a := upd_ne z
theorem cD_at : (cD c D u).H0 D = some u := upd_same
theorem Mt.D_P (M : Mt K mg (cD c D u) W o σ H e m) (n : NewIn c D) : W.P D = none := by
  cases q : W.P D with
  | none => rfl
  | some x =>
    rcases M.gP D (by rw [q]; simp) with z | z
    · exact absurd n.P z
    · rw [cD_at] at z
      cases z
theorem Mt.D_r (M : Mt K mg (cD c D u) W o σ H e m) (n : NewIn c D) : D ∉ W.r := fun h => by
  rcases M.gr D h with z | z
  · exact n.r z
  · rw [cD_at] at z
    cases z
theorem Mt.D_o (M : Mt K mg (cD c D u) W o σ H e m) (i : Nat) : o i ≠ some D := fun h => by
  have := (M.own i D h).2.2.1
  rw [cD_at] at this
  cases this
theorem Mt.D_H (M : Mt K mg (cD c D u) W o σ H e m) (n : NewIn c D) : H D = some u := M.fr D u cD_at n.r
theorem Mt.ofD (M : Mt K mg (cD c D u) W o σ H e m) (n : NewIn c D) : Mt K mg c W o σ H e m := by
  refine { M with p0 := M.p0, r0 := M.r0, gP := fun a q => ?_, gr := fun a q => ?_, fr := fun a x q k => ?_, own := fun i a q => ?_ }
  · rcases M.gP a q with z | z
    · exact .inl z
    · refine .inr ?_
      by_cases y : a = D
      · rw [y]; exact n.H
      · rw [cD_ne y] at z; exact z
  · rcases M.gr a q with z | z
    · exact .inl z
    · refine .inr ?_
      by_cases y : a = D
      · rw [y]; exact n.H
      · rw [cD_ne y] at z; exact z
  · refine M.fr a x ?_ k
    rw [cD_ne fun y => ?_]
    · exact q
    · rw [y, n.H] at q; cases q
  · obtain ⟨h1, h2, h3, h4⟩ := M.own i a q
    have y : a ≠ D := fun y => M.D_o i (by rw [← y]; exact q)
    exact ⟨h1, h2, by rw [cD_ne y] at h3; exact h3, h4⟩
/-- the object is data from now on -/
theorem Mt.keepD (M : Mt K mg (cD c D u) W o σ H e m) (n : NewIn c D) : Mt K mg c (W.put D u) o σ H e m := by
  have N := M.ofD n
  have oP := M.D_P n
  have up := up_put (u := u) oP
  have at_ : ∀ a, a ≠ D → (W.put D u).P a = W.P a := fun a z => upd_ne z
  refine ⟨fun a x q => ?_, fun a x q => up.P a x (N.p0 a x q), fun a q => ?_, N.r0, N.gr, N.fr, N.rnd, fun a q => ?_, fun j a q => ?_, N.inj, N.len, fun j s q => ?_, N.ms.1, fun j mo a h1 h2 => ?_⟩
  · by_cases z : a = D
    · subst z
      rw [show (W.put a u).P a = some u from upd_same] at q
      rw [M.D_H n]
      exact q
    · rw [at_ a z] at q
      exact N.sub a x q
  · by_cases z : a = D
    · rw [z]
      exact .inr n.H
    · rw [at_ a z] at q
      exact N.gP a q
  · rw [at_ a fun z => M.D_r n (z ▸ q)]
    exact N.rP a q
  · obtain ⟨h1, h2, h3, h4⟩ := N.own j a q
    have y : a ≠ D := fun y => M.D_o j (by rw [← y]; exact q)
    exact ⟨by rw [at_ a y]; exact h1, h2, h3, h4⟩
  · obtain ⟨x, h1, h2⟩ := N.env j s q
    exact ⟨x, h1, h2.up up fun _ _ _ => rfl⟩
  · exact (N.ms.2 j mo a h1 h2).up up fun _ => rfl
theorem Mt.pokeD (M : Mt K mg (cD c D u) W o σ H e m) (n : NewIn c D) : Mt K mg (cD c D u') W o σ (upd H D u') e m := by
  have hP := M.D_P n
  have hr := M.D_r n
  have ne : ∀ a, a ≠ D → upd H D u' a = H a := fun a z => upd_ne z
  refine ⟨fun a x q => ?_, M.p0, fun a q => ?_, M.r0, fun a q => ?_, fun a x q k => ?_, M.rnd, fun a q => ?_, fun i a q => ?_, M.inj, M.len, fun i s q => ?_, M.ms.1, fun j mo a h1 h2 => ?_⟩
  · rw [ne a fun y => by rw [y, hP] at q; cases q]
    exact M.sub a x q
  · rcases M.gP a q with z | z
    · exact .inl z
    · have y : a ≠ D := fun y => q (y ▸ hP)
      rw [cD_ne y] at z
      exact .inr (by rw [cD_ne y]; exact z)
  · rcases M.gr a q with z | z
    · exact .inl z
    · have y : a ≠ D := fun y => hr (y ▸ q)
      rw [cD_ne y] at z
      exact .inr (by rw [cD_ne y]; exact z)
  · by_cases y : a = D
    · subst y
      rw [cD_at] at q
      rw [upd_same]
      exact q
    · rw [cD_ne y] at q
      rw [ne a y]
      exact M.fr a x (by rw [cD_ne y]; exact q) k
  · obtain ⟨h1, h2⟩ := M.rP a q
    exact ⟨h1, by rw [ne a fun y => hr (y ▸ q)]; exact h2⟩
  · obtain ⟨h1, h2, h3, h4⟩ := M.own i a q
    have y : a ≠ D := fun y => M.D_o i (y ▸ q)
    exact ⟨h1, h2, by rw [cD_ne y] at h3 ⊢; exact h3, by rw [ne a y]; exact h4⟩
  · obtain ⟨x, h1, h2⟩ := M.env i s q
    exact ⟨x, h1, h2.up (Up.refl W) fun a ha _ => ne a fun y => M.D_o i (y ▸ ha)⟩
  · exact (M.ms.2 j mo a h1 h2).up (Up.refl W) fun _ => ne a fun y => hr (y ▸ List.mem_of_getElem? h2)
end

/-! ### results of which none is an exception -/
def R.bindN {α β : Type} (r : R α) (k : α → Env → MS → R β) : R β :=
  match r with
  | .ok a e m => k a e m
  | _ => .no
@[simp] theorem R.bindN_ok {α β : Type} (a : α) (e : Env) (m : MS) (k : α → Env → MS → R β) : (R.ok a e m).bindN k = k a e m := rfl
@[simp] theorem R.bindN_no {α β : Type} (k : α → Env → MS → R β) : (R.no : R α).bindN k = .no := rfl
theorem R.bindN_is {α β : Type} {r : R α} {k : α → Env → MS → R β} {b : β} {e : Env} {m : MS} (h : r.bindN k = .ok b e m) : ∃ a e1 m1, r = .ok a e1 m1 ∧ k a e1 m1 = .ok b e m := by
  cases r with
  | ok a e1 m1 => exact ⟨a, e1, m1, rfl, h⟩
  | ex n ns vs e1 m1 => cases h
  | no => cases h
theorem R.bindN_ex {α β : Type} {r : R α} {k : α → Env → MS → R β} (hk : ∀ a e m n ns vs e1 m1, k a e m ≠ .ex n ns vs e1 m1) {n : Str} {ns : List Str} {vs : List D} {e : Env} {m : MS} : r.bindN k ≠ .ex n ns vs e m := by
  cases r with
  | ok a e1 m1 => exact hk a e1 m1 n ns vs e m
  | ex n ns vs e1 m1 => intro h; cases h
  | no => intro h; cases h

/-! ### tests of a clause -/
abbrev ETs (X : Cx) (c : C0) (Wx : WX) (xs : List Expr) (f : FT) : Prop := PTs X xs (tT X.K X.mg c Wx f)
theorem _root_.L2.PTs.impQ {X : Cx} {x : List Expr} {t t' : TT} (h : PTs X x t) (k : ∀ σ H Q, t' σ H Q → t σ H Q) : PTs X x t' := ⟨fun pins s σ H Q I q => h.run pins s σ H Q I (k _ _ _ q)⟩
def tAll : FT := fun e m => .ok true e m
theorem ets_nil {X : Cx} {c : C0} {Wx : WX} : ETs X c Wx [] tAll := pts_nil.impQ fun σ H Q ⟨W, o, e, m, M, h⟩ => Post.here (Rp := RpB) h M rfl
theorem ets_one {X : Cx} {c : C0} {Wx : WX} {x : Expr} {f : FT} (h : ET X c Wx x f) : ETs X c Wx [x] f := pts_one h

abbrev W0 : WX := fun _ _ _ _ => False
/-! ### a value that stands, or a new object of nobody's -/
section
variable (K : PySem.W.Frag) (mg : Str → Option Value) (c : C0)
def PostV (W : Wd) (σ : L2.St) (Q : VK) (Wx : WX) : R Sl → Prop
  | .ok (.fz d) e m => ∀ (W' : Wd) (o' : Nat → Option Addr) (H' : Hp) (v : V), Up W W' → Mt K mg c W' o' σ H' e m → Rep K mg W' d v → Q v H'
  | .ok (.ol l) e m => ∀ (W' : Wd) (o' : Nat → Option Addr) (H' : Hp) (p : Addr) (vs : List V), Up W W' → Mt K mg (cD c p (.lst vs)) W' o' σ H' e m → NewIn c p → l.length ≤ sizeLine → Reps K mg W' l vs → Q (.ref p) H'
  | .ok (.od ks ds) e m => ∀ (W' : Wd) (o' : Nat → Option Addr) (H' : Hp) (p : Addr) (kvs : List (Key × V)), Up W W' → Mt K mg (cD c p (.dK kvs)) W' o' σ H' e m → NewIn c p → KeysD ks kvs → Reps K mg W' ds (kvs.map (·.2)) → Q (.ref p) H'
  | .ok (.oi _ _ _) _ _ => False
  | .ex n ns ds e m => ∀ (W' : Wd) (o' : Nat → Option Addr) (H' : Hp) (C : Addr) (dd : Option Addr), Up W W' → Mt K mg c W' o' σ H' e m → mg n = some (.ref C) → ExRep K mg W' ns ds dd → Wx (.ref C) dd σ H'
  | .no => False
def tV (Wx : WX) (f : Env → MS → R Sl) : TE := fun σ H Q => ∃ W o e m, Mt K mg c W o σ H e m ∧ PostV K mg c W σ Q Wx (f e m)
end
abbrev FV := Env → MS → R Sl
abbrev EV (X : Cx) (c : C0) (Wx : WX) (x : Expr) (f : FV) : Prop := PE X x (tV X.K X.mg c Wx f)
section
variable {K : PySem.W.Frag} {mg : Str → Option Value} {c : C0} {W W1 : Wd} {σ : L2.St} {Q : VK} {Wx : WX}
theorem PostV.up {r : R Sl} (u : Up W W1) (h : PostV K mg c W σ Q Wx r) : PostV K mg c W1 σ Q Wx r := by
  cases r with
  | ok s e m =>
    cases s with
    | fz d => exact fun W' o' H' v u' M q => h W' o' H' v (u.trans u') M q
    | ol l => exact fun W' o' H' p vs u' M n z q => h W' o' H' p vs (u.trans u') M n z q
    | od ks ds => exact fun W' o' H' p vs u' M n z q => h W' o' H' p vs (u.trans u') M n z q
    | oi n ns ds => exact h
  | ex n ns ds e m => exact fun W' o' H' C dd u' M q1 q2 => h W' o' H' C dd (u.trans u') M q1 q2
  | no => exact h
theorem PostV.bind {α β : Type} {Rp : Wd → α → β → Prop} {r : R α} {k : α → Env → MS → R Sl} (h : PostV K mg c W σ Q Wx (r.bind k)) :
    Post K mg c W σ Rp (fun v H1 => ∃ W1 o1 e1 m1 a, Up W W1 ∧ Mt K mg c W1 o1 σ H1 e1 m1 ∧ Rp W1 a v ∧ PostV K mg c W1 σ Q Wx (k a e1 m1)) Wx r := by
  cases r with
  | ok a e m => exact fun W' o' H' v u' M q => ⟨W', o', e, m, a, u', M, q, PostV.up u' h⟩
  | ex n ns ds e m => exact h
  | no => exact h
end
def frzS : Sl → Env → MS → R D
  | .fz d, e, m => .ok d e m
  | .ol l, e, m => .ok (.lst l) e m
  | .od ks ds, e, m => .ok (.dic ks ds) e m
  | .oi _ _ _, _, _ => .no
theorem KeysD.len {ks : List D} {kvs : List (Key × V)} (h : KeysD ks kvs) : ks.length = kvs.length := by
  rw [h.1, List.length_map]
theorem rep_dic {K : PySem.W.Frag} {mg : Str → Option Value} {W : Wd} {ks vs : List D} {kvs : List (Key × V)} {p : Addr} (hp : W.P p = none) (hk : KeysD ks kvs) (r : Reps K mg W vs (kvs.map (·.2))) : Rep K mg (W.put p (.dK kvs)) (.dic ks vs) (.ref p) :=
  ⟨p, kvs, rfl, .inl upd_same, hk, r.up (up_put hp)⟩
section
variable {K : PySem.W.Frag} {mg : Str → Option Value} {c : C0} {W W1 : Wd} {σ : L2.St} {H : Hp} {Q : VK} {Wx : WX}
theorem PostV.frz {r : R Sl} (h : Post K mg c W σ (Rep K mg) Q Wx (r.bind frzS)) : PostV K mg c W σ Q Wx r := by
  cases r with
  | ok s e m =>
    cases s with
    | fz d => exact h
    | ol l => exact fun W' o' H' p vs u' M n z q => h _ o' H' _ (u'.trans (up_put (M.D_P n))) (M.keepD n) (rep_lst (M.D_P n) z q)
    | od ks ds => exact fun W' o' H' p kvs u' M n z q => h _ o' H' _ (u'.trans (up_put (M.D_P n))) (M.keepD n) (rep_dic (M.D_P n) z q)
    | oi n ns ds => exact h.elim
  | ex n ns ds e m => exact h
  | no => exact h
theorem tV_frz {f : FV} (h : tE K mg c Wx (fun e m => (f e m).bind frzS) σ H Q) : tV K mg c Wx f σ H Q := by
  obtain ⟨W, o, e, m, M, h⟩ := h
  exact ⟨W, o, e, m, M, PostV.frz h⟩
theorem tV_val {f : FE} (h : tV K mg c Wx (fun e m => (f e m).bind fun d e m => .ok (.fz d) e m) σ H Q) : tE K mg c Wx f σ H Q := by
  obtain ⟨W, o, e, m, M, h⟩ := h
  refine ⟨W, o, e, m, M, (PostV.bind (Rp := Rep K mg) h).mono fun v H1 ⟨W1, o1, e1, m1, d, u1, M1, r1, h1⟩ => h1 W1 o1 H1 v (Up.refl W1) M1 r1⟩
end
section
variable {X : Cx} {c : C0} {Wx : WX} {x : Expr}
theorem ev_val {f : FE} (h : EE X c Wx x f) : EV X c Wx x (fun e m => (f e m).bind fun d e m => .ok (.fz d) e m) := h.impQ fun _ _ _ => tV_val
theorem ee_ofV {f : FV} (h : EV X c Wx x f) : EE X c Wx x (fun e m => (f e m).bind frzS) := h.impQ fun _ _ _ => tV_frz
end
/-! ### the turns -/
def runLc (t : FG) (vs : List Nat) (ts : FT) (fe : FE) : List D → Env → MS → R (List D)
  | [], e, m => .ok [] e m
  | d :: ds, e, m => match t d (clw vs e) with
    | none => .no
    | some e1 => (ts e1 m).bindN fun b e2 m2 => if b then (fe e2 m2).bindN fun y e3 m3 => (runLc t vs ts fe ds e3 m3).bindN fun r e m => .ok (y :: r) e m
      else runLc t vs ts fe ds e2 m2
def xLc (f : FA) (t : FG) (vs : List Nat) (ts : FT) (fe : FE) : FE := fun e m => (f e m).bind fun ds e0 m0 => if okW e0 vs then (runLc t vs ts fe ds e0 m0).bindN fun l e1 m1 => .ok (.lst l) (rst e0 vs e1) m1 else .no
def vLc (f : FA) (t : FG) (vs : List Nat) (ts : FT) (fe : FE) : FV := fun e m => (f e m).bind fun ds e0 m0 => if okW e0 vs then (runLc t vs ts fe ds e0 m0).bindN fun l e1 m1 => .ok (.ol l) (rst e0 vs e1) m1 else .no
theorem drop_cons {α : Type} {l : List α} {i : Nat} (h : i < l.length) : ∃ d, l[i]? = some d ∧ l.drop i = d :: l.drop (i + 1) := by
  refine ⟨l[i], List.getElem?_eq_getElem h, ?_⟩
  rw [List.drop_eq_getElem_cons h]
theorem Reps.snoc {K : PySem.W.Frag} {mg : Str → Option Value} {W W1 : Wd} {ds : List D} {vs : List V} {d : D} {v : V} (h : Reps K mg W ds vs) (u : Up W W1) (k : Rep K mg W1 d v) : Reps K mg W1 (ds ++ [d]) (vs ++ [v]) := (h.up u).append (Reps.one k)
section
variable {X : Cx} {c : C0} {Wx : WX} {elt tg iter : Expr} {ifs : List Expr} {scope : Scope} {own : List (Str × Nat)} {pos : Pos} {f : FA} {t : FG} {T : List Nat} {ts : FT} {fe : FE}
/-- behind the turns: the slots told again -/
theorem Mt.rested {K : PySem.W.Frag} {mg : Str → Option Value} {W W1 : Wd} {o o1 : Nat → Option Addr} {σ : L2.St} {H H1 : Hp} {e e1 : Env} {m m1 : MS} {vs : List Nat} {c1 : C0} (M : Mt K mg c W o σ H e m) (hw : okW e vs = true) (u : Up W W1) (M1 : Mt K mg c1 W1 o1 (wipe σ vs) H1 (clw vs e1) m1) :
    Mt K mg c1 W1 o1 σ H1 (rst e vs e1) m1 :=
  M1.swap (by rw [rst_len]; have := M1.len; rw [clw_len, wipe_length] at this; exact this) fun i s q => by
    rcases rst_some q with ⟨h1, h2⟩ | ⟨h1, h2⟩
    · obtain ⟨d, rfl⟩ := okW_fz hw h1 h2
      obtain ⟨x, h3, v, rfl, r⟩ := M.env i _ h2
      exact .inr ⟨d, v, rfl, h3, r.up u⟩
    · exact .inl ⟨by rw [clw_out h1]; exact h2, wipe_out h1⟩
theorem lc_readV {K : PySem.W.Frag} {mg : Str → Option Value} {vs : List Nat} {σ : L2.St} {H : Hp} {Q : VK} (hT : ∀ i ∈ T, i ∈ vs) (h : tV K mg c Wx (vLc f t vs ts fe) σ H Q) :
    tLc (tI K mg c Wx f) (fun v σ H Q => ∃ c, tG K mg c T t v σ H Q) (fun σ H Q => ∃ c, tT K mg c W0 ts σ H Q) (fun σ H Q => ∃ c, tE K mg c W0 fe σ H Q) vs σ H Q := by
  obtain ⟨W, o, e, m, M, h⟩ := h
  refine ⟨W, o, e, m, M, (PostV.bind (Rp := RpW K mg) h).mono fun J H1 ⟨W1, o1, e1, m1, ds, u1, M1, wk, h1⟩ => ?_⟩
  obtain ⟨⟨w1, w2⟩, wl⟩ := (show WalkD K mg W1 ds J ∧ ds.length ≤ sizeLine from wk)
  split at h1
  case isFalse => exact h1.elim
  rename_i hw
  intro D hD
  obtain ⟨l, ef, mf, hl⟩ : ∃ l ef mf, runLc t vs ts fe ds e1 m1 = .ok l ef mf := by
    cases q : runLc t vs ts fe ds e1 m1 with
    | ok l e m => exact ⟨l, e, m, rfl⟩
    | ex n ns vs e m => rw [q] at h1; exact h1.elim
    | no => rw [q] at h1; exact h1.elim
  rw [hl] at h1
  have nI := M1.newIn hD
  refine ⟨fun i n H => i + n = ds.length ∧ ∃ W2 o2 e2 m2 acc accv rest, Up W1 W2 ∧ Mt K mg (cD c D (.lst accv)) W2 o2 (wipe σ vs) H (clw vs e2) m2 ∧ Reps K mg W2 acc accv ∧ acc.length ≤ i ∧ runLc t vs ts fe (ds.drop i) e2 m2 = .ok rest ef mf ∧ acc ++ rest = l,
    ⟨ds.length, by omega, W1, o1, e1, m1, [], [], l, Up.refl W1, (M1.toD hD).wiped vs, rfl, Nat.le_refl _, hl, rfl⟩, fun i n H ⟨hn, W2, o2, e2, m2, acc, accv, rest, u2, M2, ra, hai, hr, hal⟩ => ?_⟩
  have hs2 : ∀ a o, W1.P a = some o → H a = some o := fun a o z => M2.sub a o (u2.P a o z)
  have eb : ∀ {W3 : Wd} {σ3 : L2.St} {H3 : Hp} {e3 : Env} {m3 : MS} {acc3 : List Qd.D} {accv3 : List V} {rest3 : List Qd.D} {o3 : Nat → Option Addr}, i < ds.length → Up W1 W3 → Mt K mg (cD c D (.lst accv3)) W3 o3 σ3 H3 e3 m3 → wipe σ3 vs = wipe σ vs → Reps K mg W3 acc3 accv3 → acc3.length ≤ i + 1 → runLc t vs ts fe (ds.drop (i + 1)) e3 m3 = .ok rest3 ef mf → acc3 ++ rest3 = l →
      ∃ W2 o2 e2 m2 acc accv rest, Up W1 W2 ∧ Mt K mg (cD c D (.lst accv)) W2 o2 (wipe σ vs) H3 (clw vs e2) m2 ∧ Reps K mg W2 acc accv ∧ acc.length ≤ i + 1 ∧ runLc t vs ts fe (ds.drop (i + 1)) e2 m2 = .ok rest ef mf ∧ acc ++ rest = l :=
    fun {W3 σ3 H3 e3 m3 acc3 accv3 rest3 o3} hi u3 M3 hw3 r3 hl3 hr3 ha3 => ⟨W3, o3, e3, m3, acc3, accv3, rest3, u3, hw3 ▸ M3.wiped vs, r3, hl3, hr3, ha3⟩
  by_cases hi : i < ds.length
  · obtain ⟨d, hd, ed⟩ := drop_cons hi
    obtain ⟨g1, g2⟩ := w1 i d H hs2 hd
    rw [ed] at hr
    refine .inr ⟨g1, fun H' => ∃ W2 o2 e2 m2 acc accv rest, Up W1 W2 ∧ Mt K mg (cD c D (.lst accv)) W2 o2 (wipe σ vs) H' (clw vs e2) m2 ∧ Reps K mg W2 acc accv ∧ acc.length ≤ i + 1 ∧ runLc t vs ts fe (ds.drop (i + 1)) e2 m2 = .ok rest ef mf ∧ acc ++ rest = l,
      fun H' k => ⟨n - 1, by omega, by omega, k⟩, fun x H' y => ?_⟩
    obtain ⟨W3, u3, M3, r3⟩ := M2.yld u2 (g2 x H' y)
    unfold runLc at hr
    split at hr
    · cases hr
    rename_i e3 he3
    obtain ⟨b, e4, m4, hb, hr⟩ := R.bindN_is hr
    refine ⟨_, W3, o2, _, m2, d, M3, r3, e3, he3, fun o' σ' off M4 => ?_⟩
    have hwp : wipe σ' vs = wipe σ vs := (off.wipe hT).trans (wipe_wipe fun _ z => z)
    refine ⟨hwp, cD c D (.lst accv), W3, o', e3, m2, M4, ?_⟩
    rw [hb]
    intro W5 o5 H5 k u5 M5 ek
    have ek : b = k := ek
    subst ek
    cases b with
    | false =>
      simp only [Bool.false_eq_true, if_false] at hr ⊢
      exact eb hi (u2.trans (u3.trans u5)) M5 hwp (ra.up (u3.trans u5)) (by omega) hr hal
    | true =>
      simp only [if_true] at hr ⊢
      obtain ⟨yd, e6, m6, hy, hr⟩ := R.bindN_is hr
      obtain ⟨rs, e7, m7, h7, hr⟩ := R.bindN_is hr
      cases hr
      refine ⟨cD c D (.lst accv), W5, o5, e4, m4, M5, ?_⟩
      rw [hy]
      intro W6 o6 H6 v u6 M6 r6
      refine ⟨accv, M6.D_H nI, ?_, ?_⟩
      · have := ra.len
        have : accv.length ≤ i := by omega
        omega
      · exact eb hi (u2.trans (u3.trans (u5.trans u6))) (M6.pokeD nI) hwp (ra.snoc (u3.trans (u5.trans u6)) r6) (by rw [List.length_append]; simp; omega) h7 (by rw [← hal]; simp)
  · refine .inl ⟨w2 i H hs2 (by omega), ?_⟩
    rw [List.drop_of_length_le (by omega)] at hr
    cases hr
    rw [List.append_nil] at hal
    subst hal
    have M3 := M2.ofD nI
    exact h1 W2 o2 H D accv u2 (M1.rested hw u2 M2) nI (by omega) ra
theorem pg_any {Y : Cx} (hg : ∀ c, EG Y c tg T t) : PG Y tg (fun v σ H Q => ∃ c, tG Y.K Y.mg c T t v σ H Q) := ⟨fun pins s' σ H' v u Q I r ⟨c, q⟩ => (hg c).run pins s' σ H' v u Q I r q⟩
theorem pts_any {Y : Cx} (ht : ∀ c, ETs Y c W0 ifs ts) : PTs Y ifs (fun σ H Q => ∃ c, tT Y.K Y.mg c W0 ts σ H Q) := ⟨fun pins s' σ H' Q I ⟨c, q⟩ => (ht c).run pins s' σ H' Q I q⟩
theorem pe_any {Y : Cx} {x : Expr} {f : FE} (he : ∀ c, EE Y c W0 x f) : PE Y x (fun σ H Q => ∃ c, tE Y.K Y.mg c W0 f σ H Q) := ⟨fun pins s' σ H' Q I ⟨c, q⟩ => (he c).run pins s' σ H' Q I q⟩
theorem pi_anyc {Y : Cx} {f : FA} (he : ∀ c, EI Y c W0 tg iter f) : PI Y tg iter (fun σ H Q => ∃ c, tI Y.K Y.mg c W0 f σ H Q) := ⟨fun pins s' σ H' Q I ⟨c, q⟩ => (he c).run pins s' σ H' Q I q⟩
theorem xLc_frz {vs : List Nat} : xLc f t vs ts fe = fun e m => (vLc f t vs ts fe e m).bind frzS := by
  funext e m
  unfold xLc vLc
  cases f e m with
  | ok ds e0 m0 =>
    simp only [R.bind_ok]
    split
    · cases runLc t vs ts fe ds e0 m0 <;> rfl
    · rfl
  | ex n ns vs e m => rfl
  | no => rfl
theorem ev_lc (hc : X.calm = true) (hN : X.N.Nodup) (hi : EI X c Wx tg iter f) (ok : BlkOk X.N X.env.scope scope own) (hT : ∀ i ∈ T, i ∈ own.map (·.2))
    (hg : ∀ (c : C0) (s : Shared) (H : Hp) (C : Addr) (cl : List (Str × Addr)) (fp : List Addr), EG (X.blk s H scope (compEnvC scope cl C X.env) fp) c tg T t)
    (ht : ∀ (c : C0) (s : Shared) (H : Hp) (C : Addr) (cl : List (Str × Addr)) (fp : List Addr), ETs (X.blk s H scope (compEnvC scope cl C X.env) fp) c W0 ifs ts)
    (he : ∀ (c : C0) (s : Shared) (H : Hp) (C : Addr) (cl : List (Str × Addr)) (fp : List Addr), EE (X.blk s H scope (compEnvC scope cl C X.env) fp) c W0 elt fe)
    (hs : ∀ x, foldedSetIterable iter X.env x = pure x := by intro _; rfl) : EV X c Wx (.ListComp elt [⟨tg, iter, ifs, 0⟩] scope pos) (vLc f t (own.map (·.2)) ts fe) :=
  (pe_lc hc hN hi ok (fun s H C cl fp => pg_any fun c => hg c s H C cl fp) (fun s H C cl fp => pts_any fun c => ht c s H C cl fp) (fun s H C cl fp => pe_any fun c => he c s H C cl fp) hs).impQ fun _ _ _ h => lc_readV hT h
theorem ee_lc (hc : X.calm = true) (hN : X.N.Nodup) (hi : EI X c Wx tg iter f) (ok : BlkOk X.N X.env.scope scope own) (hT : ∀ i ∈ T, i ∈ own.map (·.2))
    (hg : ∀ (c : C0) (s : Shared) (H : Hp) (C : Addr) (cl : List (Str × Addr)) (fp : List Addr), EG (X.blk s H scope (compEnvC scope cl C X.env) fp) c tg T t)
    (ht : ∀ (c : C0) (s : Shared) (H : Hp) (C : Addr) (cl : List (Str × Addr)) (fp : List Addr), ETs (X.blk s H scope (compEnvC scope cl C X.env) fp) c W0 ifs ts)
    (he : ∀ (c : C0) (s : Shared) (H : Hp) (C : Addr) (cl : List (Str × Addr)) (fp : List Addr), EE (X.blk s H scope (compEnvC scope cl C X.env) fp) c W0 elt fe)
    (hs : ∀ x, foldedSetIterable iter X.env x = pure x := by intro _; rfl) : EE X c Wx (.ListComp elt [⟨tg, iter, ifs, 0⟩] scope pos) (xLc f t (own.map (·.2)) ts fe) := by
  rw [xLc_frz]
  exact ee_ofV (ev_lc hc hN hi ok hT hg ht he hs)
/-- name = value, the value an object of the name's own or data -/
def sSetV (i : Nat) (f : FV) : FS := fun e m => (f e m).thn fun s e m => match s with
  | .oi _ _ _ => .no
  | s => .nx (e.set i (some s)) m
theorem Mt.ownD {K : PySem.W.Frag} {mg : Str → Option Value} {W : Wd} {o : Nat → Option Addr} {σ : L2.St} {H : Hp} {e : Env} {m : MS} {i : Nat} {p : Addr} {u : HO} {s : Sl} (M : Mt K mg (cD c p u) W o σ H e m) (n : NewIn c p) (h : SlRep K mg W (Qd.setO o i p) H i s (some (.ref p))) :
    Mt K mg c W (Qd.setO o i p) (σ.set i (some (.ref p))) H (e.set i (some s)) m := by
  have N := M.ofD n
  refine { N with own := fun j a q => ?_, inj := fun j k a q1 q2 => ?_, len := by rw [List.length_set, List.length_set]; exact M.len, env := fun j s' q => ?_ }
  · unfold Qd.setO at q
    split at q
    · cases q
      exact ⟨M.D_P n, M.D_r n, n.H, by rw [M.D_H n]; simp⟩
    · exact N.own j a q
  · unfold Qd.setO at q1 q2
    split at q1
    · cases q1
      rename_i z1
      split at q2
      · rename_i z2
        rw [z1, z2]
      · exact absurd q2 (M.D_o k)
    · split at q2
      · cases q2
        exact absurd q1 (M.D_o j)
      · exact M.inj j k a q1 q2
  · by_cases z : j = i
    · subst z
      have hj : j < e.length := by
        have := (List.getElem?_eq_some_iff.mp q).1
        rwa [List.length_set] at this
      rw [List.getElem?_set_self hj] at q
      cases q
      exact ⟨some (.ref p), List.getElem?_set_self (by rw [← M.len]; exact hj), h⟩
    · rw [List.getElem?_set_ne (Ne.symm z)] at q
      obtain ⟨x, h1, h2⟩ := N.env j s' q
      exact ⟨x, by rw [List.getElem?_set_ne (Ne.symm z)]; exact h1, h2.own (by unfold Qd.setO; rw [if_neg z])⟩
/-- behind the value: stored -/
theorem tV_set {K : PySem.W.Frag} {mg : Str → Option Value} {i : Nat} {f : FV} {σ : L2.St} {H : Hp} {Dn : Ends} (h : tS K mg c Wx (sSetV i f) Dn σ H) : tV K mg c Wx f σ H (fun v H1 => Dn.nx (σ.set i (some v)) H1) := by
  obtain ⟨W, o, e, m, M, h⟩ := h
  refine ⟨W, o, e, m, M, ?_⟩
  unfold sSetV at h
  cases q : f e m with
  | ok s e1 m1 =>
    rw [q] at h
    cases s with
    | fz d => exact fun W' o' H' v u M' r => h W' _ _ H' u (M'.setF r)
    | ol l => exact fun W' o' H' p vs u M' n z r => h W' _ _ H' u (M'.ownD n ⟨p, vs, by unfold setO; rw [if_pos rfl], rfl, M'.D_H n, z, r⟩)
    | od ks ds => exact fun W' o' H' p kvs u M' n z r => h W' _ _ H' u (M'.ownD n ⟨p, kvs, by unfold setO; rw [if_pos rfl], rfl, M'.D_H n, z, r⟩)
    | oi n ns ds => exact h.elim
  | ex n ns ds e1 m1 => rw [q] at h; exact fun W' o' H' C dd u' M q1 q2 => h W' o' σ H' C dd u' M q1 q2
  | no => rw [q] at h; exact h.elim
theorem ss_setV {i : Nat} {x : Str} {pos' : Pos} {e : Expr} {f : FV} (hN : X.N.Nodup) (hi : X.N[i]? = some x) (hx : Loc X.env.scope x) (he : EV X c Wx e f) (hs : swapsWith e (some (.Name x pos')) pos.line X.env = pure false := by rfl)
    (hf : X.fn x = true ∨ X.env.scope.names.lookup x = some .local := by first | exact .inl rfl | exact .inr rfl | assumption) : SS X c Wx (.Assign [.Name x pos'] e pos) (sSetV i f) :=
  (ps_set hN hi hx he hs hf).impQ fun Dn σ H h => tV_set h
theorem ss_setLc {i : Nat} {y : Str} {py spos : Pos} (hy : X.N[i]? = some y) (hyl : X.env.scope.names.lookup y = some .local)
    (hsw : swapsWith (.ListComp elt [⟨tg, iter, ifs, 0⟩] scope pos) (some (.Name y py)) spos.line X.env = pure true) (hc : X.calm = true) (hN : X.N.Nodup) (hi : EI X c Wx tg iter f) (ok : BlkOk X.N X.env.scope scope own) (hT : ∀ i ∈ T, i ∈ own.map (·.2))
    (hg : ∀ (c : C0) (s : Shared) (H : Hp) (C : Addr) (cl : List (Str × Addr)) (fp : List Addr), EG (X.blk s H scope (compEnvC scope cl C X.env) fp) c tg T t)
    (ht : ∀ (c : C0) (s : Shared) (H : Hp) (C : Addr) (cl : List (Str × Addr)) (fp : List Addr), ETs (X.blk s H scope (compEnvC scope cl C X.env) fp) c W0 ifs ts)
    (he : ∀ (c : C0) (s : Shared) (H : Hp) (C : Addr) (cl : List (Str × Addr)) (fp : List Addr), EE (X.blk s H scope (compEnvC scope cl C X.env) fp) c W0 elt fe)
    (hs : ∀ x, foldedSetIterable iter X.env x = pure x := by intro _; rfl) : SS X c Wx (.Assign [.Name y py] (.ListComp elt [⟨tg, iter, ifs, 0⟩] scope pos) spos) (sSetV i (vLc f t (own.map (·.2)) ts fe)) :=
  (ps_setLc hc hN hy hyl hsw hi ok (fun s H C cl fp => pg_any fun c => hg c s H C cl fp) (fun s H C cl fp => pts_any fun c => ht c s H C cl fp) (fun s H C cl fp => pe_any fun c => he c s H C cl fp) hs).impQ fun _ _ _ h => lc_readV hT (tV_set h)
/-- .. as data -/
theorem ss_setLcF {i : Nat} {y : Str} {py spos : Pos} (hy : X.N[i]? = some y) (hyl : X.env.scope.names.lookup y = some .local)
    (hsw : swapsWith (.ListComp elt [⟨tg, iter, ifs, 0⟩] scope pos) (some (.Name y py)) spos.line X.env = pure true) (hc : X.calm = true) (hN : X.N.Nodup) (hi : EI X c Wx tg iter f) (ok : BlkOk X.N X.env.scope scope own) (hT : ∀ i ∈ T, i ∈ own.map (·.2))
    (hg : ∀ (c : C0) (s : Shared) (H : Hp) (C : Addr) (cl : List (Str × Addr)) (fp : List Addr), EG (X.blk s H scope (compEnvC scope cl C X.env) fp) c tg T t)
    (ht : ∀ (c : C0) (s : Shared) (H : Hp) (C : Addr) (cl : List (Str × Addr)) (fp : List Addr), ETs (X.blk s H scope (compEnvC scope cl C X.env) fp) c W0 ifs ts)
    (he : ∀ (c : C0) (s : Shared) (H : Hp) (C : Addr) (cl : List (Str × Addr)) (fp : List Addr), EE (X.blk s H scope (compEnvC scope cl C X.env) fp) c W0 elt fe)
    (hs : ∀ x, foldedSetIterable iter X.env x = pure x := by intro _; rfl) : SS X c Wx (.Assign [.Name y py] (.ListComp elt [⟨tg, iter, ifs, 0⟩] scope pos) spos) (sSet i (xLc f t (own.map (·.2)) ts fe)) :=
  (ps_setLc hc hN hy hyl hsw hi ok (fun s H C cl fp => pg_any fun c => hg c s H C cl fp) (fun s H C cl fp => pts_any fun c => ht c s H C cl fp) (fun s H C cl fp => pe_any fun c => he c s H C cl fp) hs).impQ fun Dn σ H h => lc_readV hT (tV_frz (by
    rw [← xLc_frz]
    obtain ⟨W, o, e, m, M, h⟩ := h
    exact ⟨W, o, e, m, M, (PostS.thn (Rp := Rep X.K X.mg) h).mono fun v H1 ⟨W1, o1, e1, m1, a, u, M1, r, q⟩ => q W1 _ _ H1 (Up.refl W1) (M1.setF r)⟩))
end
end Qd
end
section
set_option Elab.async false
set_option linter.all false
set_option autoImplicit false
set_option maxRecDepth 100000

/-! Dict comprehensions with two clauses: the walk, turned from that of lists. -/
namespace Qz
open PySem PySem.Spec PyProof.Rows L2
theorem ctd2_out (kx vx t0 i0 t1 i1 : Expr) (jfs0 jfs1 : List Expr) (sco : Scope) (po : Pos) (it : Value) (D : Addr) (env : Env) :
    compTurn (.DictComp kx vx [⟨t0, i0, jfs0, 0⟩, ⟨t1, i1, jfs1, 0⟩] sco po) 0 it (.ref D) env = (do
      standAt i0.pos
      match ← pyNext it with
      | none => pure (.done .next)
      | some v =>
        letOwnedTupleGo t0 it v
        assign t0 env v
        let mut ok := true
        for cq in jfs0 do
          if ok then ok ← isTrue cq env (eval cq env)
        if ok then
          let xq ← eval i1 env
          standAt i1.pos
          let xq ← foldedSetIterable i1 env xq
          let _ ← runOwn (.compStart (.DictComp kx vx [⟨t0, i0, jfs0, 0⟩, ⟨t1, i1, jfs1, 0⟩] sco po) 1 (← holding [xq] (pyIter xq)) (.ref D) env) env
        again (.compLoop (.DictComp kx vx [⟨t0, i0, jfs0, 0⟩, ⟨t1, i1, jfs1, 0⟩] sco po) 0 it (.ref D) env)) := by rfl
theorem ctd2_in (kx vx t0 i0 t1 i1 : Expr) (jfs0 jfs1 : List Expr) (sco : Scope) (po : Pos) (it : Value) (D : Addr) (env : Env) :
    compTurn (.DictComp kx vx [⟨t0, i0, jfs0, 0⟩, ⟨t1, i1, jfs1, 0⟩] sco po) 1 it (.ref D) env = (do
      standAt i1.pos
      match ← pyNext it with
      | none => pure (.done .next)
      | some v =>
        letOwnedTupleGo t1 it v
        assign t1 env v
        let mut ok := true
        for cq in jfs1 do
          if ok then ok ← isTrue cq env (eval cq env)
        if ok then
          (do
            let kv ← eval kx env
            let vv ← holding [kv] (eval vx env)
            standAt { kx.pos with endLine := vx.pos.endLine, endCol := vx.pos.endCol }
            holding [kv, vv] (dictSet D kv vv))
        again (.compLoop (.DictComp kx vx [⟨t0, i0, jfs0, 0⟩, ⟨t1, i1, jfs1, 0⟩] sco po) 1 it (.ref D) env)) := by rfl

section
variable {prog : Program} {wo : World} {Ar : Around} {R : Result → Shared → Prop} {s : Shared} {kx vx t0 i0 t1 i1 : Expr} {jfs0 jfs1 : List Expr} {sco : Scope} {po : Pos} {it : Value} {D : Addr} {env : Env}
/-- the lup of the first clause -/
theorem cld2_out (hss : ∀ xq, foldedSetIterable i1 env xq = pure xq) (I : Nat → Shared → Prop)
    (trn : ∀ n s, I n s → wpAny (model prog wo) Ar (pyNext it) (fun r t₁ => match r with
      | none => R (.ok .next) t₁
      | some v => wpAny (model prog wo) Ar (letOwnedTupleGo t0 it v) (fun _ s₁' => wpAny (model prog wo) Ar (assign t0 env v) (fun _ t₂ =>
          wpAny (model prog wo) Ar (forIn jfs0 true fun cq r => if r = true then do let ok ← isTrue cq env (eval cq env); pure (ForInStep.yield ok) else pure (ForInStep.yield r)) (fun ok t₃ =>
            if ok = true then wpAny (model prog wo) Ar (eval i1 env) (fun xq t₄ => wpAny (model prog wo) Ar (pyIter xq) (fun it1 t₅ =>
              codeAny (model prog wo) Ar (.compStart (.DictComp kx vx [⟨t0, i0, jfs0, 0⟩, ⟨t1, i1, jfs1, 0⟩] sco po) 1 it1 (.ref D) env) (fun r s' => match r with
                | .ok _ => ∃ mm, mm < n ∧ I mm s'
                | .error _ => False) t₅) (notedBy (model prog wo) Ar env fun eq0 s' => R (.error eq0) s') t₄) (notedBy (model prog wo) Ar env fun eq0 s' => R (.error eq0) s') t₃
            else ∃ mm, mm < n ∧ I mm t₃) (notedBy (model prog wo) Ar env fun eq0 s' => R (.error eq0) s') t₂) (notedBy (model prog wo) Ar env fun eq0 s' => R (.error eq0) s') s₁') (notedBy (model prog wo) Ar env fun eq0 s' => R (.error eq0) s') t₁) (notedBy (model prog wo) Ar env fun eq0 s' => R (.error eq0) s') s)
    (n : Nat) (hh : I n s) :
    codeAny (model prog wo) Ar (.compLoop (.DictComp kx vx [⟨t0, i0, jfs0, 0⟩, ⟨t1, i1, jfs1, 0⟩] sco po) 0 it (.ref D) env) R s := by
  refine codeAny_loop rfl I (fun n s hI => ?_) n hh
  show wpAny _ Ar ((compTurn (.DictComp kx vx [⟨t0, i0, jfs0, 0⟩, ⟨t1, i1, jfs1, 0⟩] sco po) 0 it (.ref D) env).onRaise (fun xq => do noteFrame xq env; theTreesLotGoes xq)) _ _ s
  refine wpAny_noted ?_
  rw [ctd2_out]
  refine wpAny_bind (wpAny_standAt (wpAny_bind (wpAny_mono (trn n s hI) (fun r t₁ g₁ => ?_) fun _ _ g' => g')))
  cases r with
  | none => exact wpAny_pure g₁
  | some v =>
    refine wpAny_bind (wpAny_mono g₁ (fun _ s₁' h₁' => ?_) fun _ _ g' => g')
    refine wpAny_bind (wpAny_mono h₁' (fun _ t₂ g₂ => wpAny_bind (wpAny_mono g₂ (fun ok t₃ g₃ => ?_) fun _ _ g' => g')) fun _ _ g' => g')
    cases ok with
    | false => exact wpAny_pure ⟨rfl, g₃⟩
    | true =>
      refine wpAny_bind (wpAny_mono g₃ (fun xq t₄ g₄ => ?_) fun _ _ g' => g')
      refine wpAny_bind (wpAny_standAt (wpAny_bind (wpAny_of_eq (hss xq) (wpAny_bind (wpAny_holding (wpAny_mono g₄ (fun it1 t₅ g₅ => ?_) fun _ _ g' => g'))))))
      refine wpAny_bind (wpAny_runOwn ?_)
      rw [Around.mark_none]
      refine codeAny_mono g₅ fun r s' hrr => ?_
      cases r with
      | ok f =>
        first
          | exact wpAny_pure ⟨rfl, hrr⟩
          | exact wpAny_bind (wpAny_pure (wpAny_pure ⟨rfl, hrr⟩))
      | error eq0 => exact hrr.elim
/-- the lup of the second -/
theorem cld2_in (I : Nat → Shared → Prop)
    (trn : ∀ n s, I n s → wpAny (model prog wo) Ar (pyNext it) (fun r t₁ => match r with
      | none => R (.ok .next) t₁
      | some v => wpAny (model prog wo) Ar (letOwnedTupleGo t1 it v) (fun _ s₁' => wpAny (model prog wo) Ar (assign t1 env v) (fun _ t₂ =>
          wpAny (model prog wo) Ar (forIn jfs1 true fun cq r => if r = true then do let ok ← isTrue cq env (eval cq env); pure (ForInStep.yield ok) else pure (ForInStep.yield r)) (fun ok t₃ =>
            if ok = true then wpAny (model prog wo) Ar (eval kx env) (fun kv t₄ => wpAny (model prog wo) Ar (eval vx env) (fun vv t₅ =>
              wpAny (model prog wo) Ar (dictSet D kv vv) (fun _ s₆ => ∃ mm, mm < n ∧ I mm s₆) (notedBy (model prog wo) Ar env fun eq0 s' => R (.error eq0) s') t₅) (notedBy (model prog wo) Ar env fun eq0 s' => R (.error eq0) s') t₄) (notedBy (model prog wo) Ar env fun eq0 s' => R (.error eq0) s') t₃
            else ∃ mm, mm < n ∧ I mm t₃) (notedBy (model prog wo) Ar env fun eq0 s' => R (.error eq0) s') t₂) (notedBy (model prog wo) Ar env fun eq0 s' => R (.error eq0) s') s₁') (notedBy (model prog wo) Ar env fun eq0 s' => R (.error eq0) s') t₁) (notedBy (model prog wo) Ar env fun eq0 s' => R (.error eq0) s') s)
    (n : Nat) (hh : I n s) :
    codeAny (model prog wo) Ar (.compLoop (.DictComp kx vx [⟨t0, i0, jfs0, 0⟩, ⟨t1, i1, jfs1, 0⟩] sco po) 1 it (.ref D) env) R s := by
  refine codeAny_loop rfl I (fun n s hI => ?_) n hh
  show wpAny _ Ar ((compTurn (.DictComp kx vx [⟨t0, i0, jfs0, 0⟩, ⟨t1, i1, jfs1, 0⟩] sco po) 1 it (.ref D) env).onRaise (fun xq => do noteFrame xq env; theTreesLotGoes xq)) _ _ s
  refine wpAny_noted ?_
  rw [ctd2_in]
  refine wpAny_bind (wpAny_standAt (wpAny_bind (wpAny_mono (trn n s hI) (fun r t₁ g₁ => ?_) fun _ _ g' => g')))
  cases r with
  | none => exact wpAny_pure g₁
  | some v =>
    refine wpAny_bind (wpAny_mono g₁ (fun _ s₁' h₁' => ?_) fun _ _ g' => g')
    refine wpAny_bind (wpAny_mono h₁' (fun _ t₂ g₂ => wpAny_bind (wpAny_mono g₂ (fun ok t₃ g₃ => ?_) fun _ _ g' => g')) fun _ _ g' => g')
    cases ok with
    | false => exact wpAny_pure ⟨rfl, g₃⟩
    | true =>
      exact wpAny_bind (wpAny_bind (wpAny_mono g₃ (fun kv t₄ g₄ => wpAny_bind (wpAny_holding (wpAny_mono g₄ (fun vv t₅ g₅ => wpAny_bind (wpAny_standAt (wpAny_holding (wpAny_mono g₅ (fun _ s₆ h₆ => wpAny_pure ⟨rfl, h₆⟩) fun _ _ g' => g')))) fun _ _ g' => g'))) fun _ _ g' => g'))
/-- the second clause's start -/
theorem csd1_ok (h0 : codeAny (model prog wo) Ar (.compLoop (.DictComp kx vx [⟨t0, i0, jfs0, 0⟩, ⟨t1, i1, jfs1, 0⟩] sco po) 1 it (.ref D) env) R s)
    (hh : wpAny (model prog wo) Ar (pyIter it) (fun it' s' => codeAny (model prog wo) Ar (.compLoop (.DictComp kx vx [⟨t0, i0, jfs0, 0⟩, ⟨t1, i1, jfs1, 0⟩] sco po) 1 it' (.ref D) env) R s')
      (notedBy (model prog wo) Ar env fun xq s' => R (.error xq) s') s) :
    codeAny (model prog wo) Ar (.compStart (.DictComp kx vx [⟨t0, i0, jfs0, 0⟩, ⟨t1, i1, jfs1, 0⟩] sco po) 1 it (.ref D) env) R s := by
  refine codeAny_of_tree ?_
  show wpAny _ _ ((compStart (.DictComp kx vx [⟨t0, i0, jfs0, 0⟩, ⟨t1, i1, jfs1, 0⟩] sco po) 1 it (.ref D) env).onRaise (fun xq => do noteFrame xq env; standAt theWindowsPlace)) _ _ s
  refine wpAny_notedAt ?_
  unfold compStart
  show wpAny _ _ (ask >>= _) _ _ s
  refine wpAny_bind (wpAny_askSetting (wpAny_ite ?_))
  split
  · first
      | exact wpAny_bind (wpAny_pure (wpAny_pure (And.intro rfl h0)))
      | exact wpAny_pure (And.intro rfl h0)
  · first
      | exact wpAny_bind (wpAny_rule (wpAny_bind (wpAny_standAt (wpAny_bind (wpAny_mono hh (fun it' s' g' => wpAny_pure (And.intro rfl g')) fun _ _ xq => xq)))))
      | (refine wpAny_bind (wpAny_rule ?_); show wpAny _ _ (standAt i1.pos >>= _) _ _ s; exact wpAny_bind (wpAny_standAt (wpAny_bind (wpAny_mono hh (fun it' s' g' => wpAny_pure (And.intro rfl g')) fun _ _ xq => xq))))
end
section
variable {X : Cx}
def tDc2 (wi0 : TI) (g : TG) (tt : TT) (wi1 : TI) (g1 : TG) (tt1 : TT) (tk tv : TE) (vs vs1 : List Nat) : TE := fun σ H Q => wi0 σ H fun J H1 => ∀ D, H1 D = none → ∃ W : Nat → Nat → Hp → Prop, (∃ mm, W 0 mm (upd H1 D (.dK []))) ∧ ∀ iq mm H, W iq mm H →
  (J.stop iq H ∧ Q (.ref D) H) ∨ (J.go iq H ∧ ∃ Nx : Hp → Prop, (∀ G', Nx G' → ∃ mq, mq < mm ∧ W (iq + 1) mq G') ∧ ∀ xq G', J.yld iq H xq G' → g xq (wipe σ vs) G' fun σ2 G2 => wipe σ2 vs = wipe σ vs ∧ tt σ2 G2 fun bq G3 =>
    if bq = true then wi1 σ2 G3 fun J1 H4 => ∃ W1 : Nat → Nat → Hp → Prop, (∃ mm, W1 0 mm H4) ∧ ∀ jq kq H, W1 jq kq H →
      (J1.stop jq H ∧ Nx H) ∨ (J1.go jq H ∧ ∃ Nx1 : Hp → Prop, (∀ G', Nx1 G' → ∃ k', k' < kq ∧ W1 (jq + 1) k' G') ∧ ∀ xq G', J1.yld jq H xq G' → g1 xq (wipe σ2 vs1) G' fun σ3 G5 => wipe σ3 vs1 = wipe σ2 vs1 ∧ tt1 σ3 G5 fun bq H6 =>
        if bq = true then tk σ3 H6 fun yq G7 => tv σ3 G7 fun zq G8 => ∃ kvs kq, yq = kV kq ∧ G8 D = some (.dK kvs) ∧ kvs.length < sizeLine ∧ Nx1 (upd G8 D (.dK (putK kvs kq zq))) else Nx1 H6)
    else Nx G3)
theorem dc2_core {pins : List (Addr × Obj)} {s : Shared} {σ : L2.St} {H : Hp} {Q : VK} {kx vx tg itr tg1 itr1 : Expr} {jfs jfs1 : List Expr} {sco : Scope} {ows : List (Str × Nat)} {vs1 : List Nat} {po po' : Pos} {wi0 wi1 : TI} {g g1 : TG} {tt tt1 : TT} {tk tv : TE} {use : Option (Value → Sem Unit)} {Qf : Value → Shared → Prop}
    (hcc : X.calm = true) (hNn : X.N.Nodup) (I : Inv X pins σ H s) (hi : PI X tg itr wi0) (ok : BlkOk X.N X.env.scope sco ows) (hv : ∀ iq ∈ vs1, iq ∈ ows.map (·.2))
    (hg : ∀ (s : Shared) (H : Hp) (C : Addr) (clo : List (Str × Addr)) (fq : List Addr), PG (X.blk s H sco (compEnvC sco clo C X.env) fq) tg g) (ht : ∀ (s : Shared) (H : Hp) (C : Addr) (clo : List (Str × Addr)) (fq : List Addr), PTs (X.blk s H sco (compEnvC sco clo C X.env) fq) jfs tt)
    (hk : ∀ (s : Shared) (H : Hp) (C : Addr) (clo : List (Str × Addr)) (fq : List Addr), PE (X.blk s H sco (compEnvC sco clo C X.env) fq) kx tk)
    (he : ∀ (s : Shared) (H : Hp) (C : Addr) (clo : List (Str × Addr)) (fq : List Addr), PE (X.blk s H sco (compEnvC sco clo C X.env) fq) vx tv) (hss : ∀ xq, foldedSetIterable itr X.env xq = pure xq)
    (hi1 : ∀ (s : Shared) (H : Hp) (C : Addr) (clo : List (Str × Addr)) (fq : List Addr), PI (X.blk s H sco (compEnvC sco clo C X.env) fq) tg1 itr1 wi1)
    (hg1 : ∀ (s : Shared) (H : Hp) (C : Addr) (clo : List (Str × Addr)) (fq : List Addr), PG (X.blk s H sco (compEnvC sco clo C X.env) fq) tg1 g1)
    (ht1 : ∀ (s : Shared) (H : Hp) (C : Addr) (clo : List (Str × Addr)) (fq : List Addr), PTs (X.blk s H sco (compEnvC sco clo C X.env) fq) jfs1 tt1)
    (hs1 : ∀ env xq, foldedSetIterable itr1 env xq = pure xq)
    (hh : tDc2 wi0 g tt wi1 g1 tt1 tk tv (ows.map (·.2)) vs1 σ H Q)
    (hRR : ∀ D C s' mm G', Inv X pins σ G' s' → Q (.ref D) G' → s'.heap.Ns C mm → FpOk X pins G' C → compPost (model X.prog X.w) X.A X.xe use Qf (.ref D) C (.ok .next) s') :
    wpAny (model X.prog X.w) X.A (comprehension (.DictComp kx vx [⟨tg, itr, jfs, 0⟩, ⟨tg1, itr1, jfs1, 0⟩] sco po) sco X.env po' newDict false (eval itr X.env) use) Qf X.xe s := by
  have hfr : ∀ yq ∈ sco.names, yq.2 = .free → ∃ cq, X.env.cells.lookup yq.1 = some cq := fun yq hy eq0 => by
    rcases ok.free yq hy eq0 with kq | kq
    · exact I.ok.has _ (.inl kq)
    · exact I.ok.has _ (.inr kq)
  refine wpAny_comprehension_free (use := use) rfl hss (closure_ok hfr) ok.kind (fun yq hy eq0 => by rw [ok.uniq yq hy, eq0])
    (thn (hi.run pins s σ H _ I hh) fun xv s1 hxx => thn hxx fun itv u2 hh2 => ?_)
  obtain ⟨it, fq, tm, J, G2, eq0, K2, Tt, st2, f2, q⟩ := hh2
  subst eq0
  refine wpAny_newObj_type (newEnv_comp ?_)
  generalize hD : u2.heap.objs.size = D
  have hDn : G2 D = none := K2.hok.fresh (Nat.le_of_eq hD)
  obtain ⟨W, ⟨m0, w0⟩, trn⟩ := q D hDn
  -- the new list
  generalize hs3 : ({ u2 with heap := u2.heap.push { cls := .type "dict", data := .dict #[] } } : Shared) = u3
  have K3 : Inv X pins σ (upd G2 D (.dK [])) u3 := by
    rw [← hs3]
    refine K2.laid (t' := u2.toks) (fun bq o eq0 => Heap.get?_push_of_some _ eq0) (Nat.le_of_eq hD) ?_
    rw [← hD]
    exact dk_empty u2.heap K2.big
  have g3 : u3.heap = u2.heap.push { cls := .type "dict", data := .dict #[] } := by rw [← hs3]
  have sx : ∀ bq ∈ fq, bq < u2.heap.objs.size := fun bq hbb => by
    obtain ⟨o, eq0, _⟩ := Tt.obj _ _ st2 bq hbb
    exact Heap.lt_size eq0
  have g4 : ∀ bq ∈ fq, FpOk X pins (upd G2 D (.dK [])) bq ∧ bq < u3.heap.objs.size := fun bq hbb => by
    have hll := sx bq hbb
    refine ⟨⟨?_, (f2 bq hbb).2⟩, by rw [g3, Heap.size_push]; exact Nat.lt_succ_of_lt hll⟩
    rw [upd_ne (by rw [← hD]; exact Nat.ne_of_lt hll)]
    exact (f2 bq hbb).1
  have su3 : tm 0 u3.heap := Tt.keep _ _ _ st2 fun bq _ o eq0 => by rw [g3]; exact Heap.get?_push_of_some _ eq0
  have K4 := block_start K3 ok hNn g4
  have pgg := hg u3 (upd G2 D (.dK [])) u3.heap.objs.size (cellsFrom (u3.heap.objs.size + 1) sco.names (cloFrom X.env.cells sco.names [])) fq
  have ptt := ht u3 (upd G2 D (.dK [])) u3.heap.objs.size (cellsFrom (u3.heap.objs.size + 1) sco.names (cloFrom X.env.cells sco.names [])) fq
  have pk := hk u3 (upd G2 D (.dK [])) u3.heap.objs.size (cellsFrom (u3.heap.objs.size + 1) sco.names (cloFrom X.env.cells sco.names [])) fq
  have pe := he u3 (upd G2 D (.dK [])) u3.heap.objs.size (cellsFrom (u3.heap.objs.size + 1) sco.names (cloFrom X.env.cells sco.names [])) fq
  have pi1 := hi1 u3 (upd G2 D (.dK [])) u3.heap.objs.size (cellsFrom (u3.heap.objs.size + 1) sco.names (cloFrom X.env.cells sco.names [])) fq
  have pg1 := hg1 u3 (upd G2 D (.dK [])) u3.heap.objs.size (cellsFrom (u3.heap.objs.size + 1) sco.names (cloFrom X.env.cells sco.names [])) fq
  have pt1 := ht1 u3 (upd G2 D (.dK [])) u3.heap.objs.size (cellsFrom (u3.heap.objs.size + 1) sco.names (cloFrom X.env.cells sco.names [])) fq
  show codeAny _ _ (.compStart (.DictComp kx vx [⟨tg, itr, jfs, 0⟩, ⟨tg1, itr1, jfs1, 0⟩] sco po) 0 (.ref it) (.ref D) (compEnvC sco (cellsFrom (u3.heap.objs.size + 1) sco.names (cloFrom X.env.cells sco.names [])) u3.heap.objs.size X.env)) (compPost (model X.prog X.w) X.A X.xe use Qf (.ref D) u3.heap.objs.size) { u3 with heap := pushCells (u3.heap.push { cls := .type "dict", data := .dict #[] }) sco.names }
  have nfq : ∀ bq ∈ fq, (upd G2 D (.dK [])) bq = none := fun bq hbb => (g4 bq hbb).1.1
  generalize hce : compEnvC sco (cellsFrom (u3.heap.objs.size + 1) sco.names (cloFrom X.env.cells sco.names [])) u3.heap.objs.size X.env = ce0 at K4 pgg ptt pk pe pi1 pg1 pt1 ⊢
  have cL : ce0.locals = u3.heap.objs.size := by subst hce; rfl
  generalize hH3 : upd G2 D (.dK []) = G3 at K3 K4 pgg ptt pk pe pi1 pg1 pt1 w0 nfq g4
  generalize hs4 : ({ u3 with heap := pushCells (u3.heap.push { cls := .type "dict", data := .dict #[] }) sco.names } : Shared) = u4 at K4 ⊢
  have su4 : tm 0 u4.heap := Tt.keep _ _ _ su3 fun bq _ o eq0 => by rw [← hs4]; exact pushCells_keeps _ _ _ _ (Heap.get?_push_of_some _ eq0)
  have stt : ∀ {σ' : L2.St} {G' : Hp} {s' : Shared}, Inv (X.blk u3 G3 sco ce0 fq) [] σ' G' s' → (∀ bq ∈ fq, G' bq = none) → ∀ bq ∈ fq, FpOk (X.blk u3 G3 sco ce0 fq) [] G' bq := fun {σ' G' s'} K' hnn bq hbb =>
    ⟨hnn bq hbb, (K'.ok.exf bq hbb).1, K'.ok.exfs bq hbb, .inl hbb, fun xq cq eq0 => (K'.ok.exf bq hbb).2 xq cq eq0, fun p hp => absurd (show p ∈ ([] : List (Addr × Obj)) ++ [] from hp) (by simp)⟩
  have lup : codeAny (model X.prog X.w) X.A (.compLoop (.DictComp kx vx [⟨tg, itr, jfs, 0⟩, ⟨tg1, itr1, jfs1, 0⟩] sco po) 0 (.ref it) (.ref D) ce0) (compPost (model X.prog X.w) X.A X.xe use Qf (.ref D) u3.heap.objs.size) u4 := by
    refine cld2_out (hs1 ce0) (fun n s' => ∃ iq G', Inv (X.blk u3 G3 sco ce0 fq) [] (wipe σ (ows.map (·.2))) G' s' ∧ tm iq s'.heap ∧ (∀ bq ∈ fq, G' bq = none) ∧ W iq n G') ?_ m0 ⟨0, G3, K4, su4, nfq, w0⟩
    rintro n u5 ⟨iq, G5, K5, st5, n5, w5⟩
    rcases trn iq n G5 w5 with ⟨stp, qq⟩ | ⟨go, Nx, hNx, step⟩
    · have td := Tt.done (X.blk u3 G3 sco ce0 fq) rfl rfl rfl hcc iq [] u5 _ G5 (fun _ _ => False) K5 (stt K5 n5) st5 stp
      refine thnF td fun r u6 ⟨hrr, K6⟩ => ?_
      subst hrr
      -- back in the def's context
      have K7 : Inv X pins σ G5 u6 := K3.call' (ch := fq) K6.os K6.base K6.hok K6.bare fun bq hbb => ⟨(g4 bq hbb).1.2.2.2.1, (g4 bq hbb).1.2.1, (g4 bq hbb).1.2.2.2.2.1, (g4 bq hbb).1.2.2.2.2.2⟩
      have nC : G5 u3.heap.objs.size = none := by
        have zq : G5 ce0.locals = none := K6.free
        rw [cL] at zq
        exact zq
      obtain ⟨mm, hnn, _⟩ := K6.loc
      have hnn : u6.heap.Ns ce0.locals mm := hnn
      rw [cL] at hnn
      exact hRR D u3.heap.objs.size u6 mm G5 K7 qq hnn (K3.fpOk (Nat.le_refl _) nC)
    · have ti := Tt.item (X.blk u3 G3 sco ce0 fq) rfl rfl rfl hcc iq [] u5 _ G5 (fun _ _ => False) K5 (stt K5 n5) st5 go
      refine thnF ti fun r u6 ⟨u, hrr, h6⟩ => ?_
      subst hrr
      refine thnF h6 fun _ u7 ⟨xq, G7, K7, r7, y7, st7, n7⟩ => ?_
      have K7' := K7.pinned (stt K7 n7) (Tt.obj _ _ st7)
      refine thnF (pgg.run _ u7 _ G7 xq u _ K7' r7 (step xq G7 y7)) fun _ u8 ⟨σ8, G8, K8, hw8, q8⟩ => ?_
      refine thnF (ptt.run _ u8 σ8 G8 _ K8 q8) fun bq u9 ⟨G9, K9, q9⟩ => ?_
      -- the turn's end, from any slots that know what the block knew at its start
      have fnn : ∀ {σ9 : L2.St} {s' : Shared} {G' : Hp}, Inv (X.blk u3 G3 sco ce0 fq) ([] ++ pinsAt fq u7.heap) σ9 G' s' → (wipe σ (ows.map (·.2))).length = σ9.length → (∀ (jq : Nat) v, (wipe σ (ows.map (·.2)))[jq]? = some (some v) → σ9[jq]? = some (some v)) → Nx G' →
          ∃ mm, mm < n ∧ ∃ iq G', Inv (X.blk u3 G3 sco ce0 fq) [] (wipe σ (ows.map (·.2))) G' s' ∧ tm iq s'.heap ∧ (∀ bq ∈ fq, G' bq = none) ∧ W iq mm G' := fun {σ9 s' G'} K' hl hk nx => by
        obtain ⟨mq, hmm, wq⟩ := hNx G' nx
        have pn' : ∀ bq ∈ fq, ∀ o, u7.heap.get? bq = some o → s'.heap.get? bq = some o ∧ G' bq = none := fun bq hbb o eq0 =>
          let zq := K'.pin (bq, o) (List.mem_append_right _ (List.mem_append_right _ (mem_pinsAt hbb eq0)))
          ⟨zq.1, zq.2.1⟩
        refine ⟨mq, hmm, iq + 1, G', (K'.unpinned (pins := [])).weak hl hk, Tt.keep _ _ _ st7 fun bq hbb o eq0 => (pn' bq hbb o eq0).1, fun bq hbb => ?_, wq⟩
        obtain ⟨o, eq0, _⟩ := Tt.obj _ _ st7 bq hbb
        exact (pn' bq hbb o eq0).2
      have hl8 : (wipe σ (ows.map (·.2))).length = σ8.length := by rw [← hw8, wipe_length]
      have hk8 : ∀ (jq : Nat) v, (wipe σ (ows.map (·.2)))[jq]? = some (some v) → σ8[jq]? = some (some v) := fun jq v eq0 => by
        rw [← hw8] at eq0
        exact (wipe_some eq0).1
      have hk9 : ∀ (jq : Nat) v, (wipe σ (ows.map (·.2)))[jq]? = some (some v) → (wipe σ8 vs1)[jq]? = some (some v) := fun jq v eq0 => by
        rw [← hw8] at eq0
        obtain ⟨e1, e2⟩ := wipe_some eq0
        rw [wipe_out fun zq => e2 (hv jq zq)]
        exact e1
      cases bq with
      | false =>
        simp only [Bool.false_eq_true, if_false] at q9 ⊢
        exact fnn K9 hl8 hk8 q9
      | true =>
        simp only [if_true] at q9 ⊢
        refine thnF (pi1.run _ u9 σ8 G9 _ K9 q9) fun xv u10 hxx => thnF hxx fun itv u11 h11 => ?_
        obtain ⟨it1, fq1, tn1, J1, G11, e1, K11, T1, st11, f11, W1, ⟨m1, w1⟩, turn1⟩ := h11
        subst e1
        -- the inner lup
        have stat1 : ∀ {G' : Hp}, (∀ bq ∈ fq1, G' bq = none) → ∀ bq ∈ fq1, FpOk (X.blk u3 G3 sco ce0 fq) ([] ++ pinsAt fq u7.heap) G' bq := fun hnn bq hbb => ⟨hnn bq hbb, (f11 bq hbb).2⟩
        have loop1 : codeAny (model X.prog X.w) X.A (.compLoop (.DictComp kx vx [⟨tg, itr, jfs, 0⟩, ⟨tg1, itr1, jfs1, 0⟩] sco po) 1 (.ref it1) (.ref D) ce0)
            (fun r s' => match r with
              | .ok _ => ∃ mm, mm < n ∧ ∃ iq G', Inv (X.blk u3 G3 sco ce0 fq) [] (wipe σ (ows.map (·.2))) G' s' ∧ tm iq s'.heap ∧ (∀ bq ∈ fq, G' bq = none) ∧ W iq mm G'
              | .error _ => False) u11 := by
          refine cld2_in (fun kq s' => ∃ jq G', Inv (X.blk u3 G3 sco ce0 fq) ([] ++ pinsAt fq u7.heap) (wipe σ8 vs1) G' s' ∧ tn1 jq s'.heap ∧ (∀ bq ∈ fq1, G' bq = none) ∧ W1 jq kq G') ?_ m1 ⟨0, G11, K11.weak (wipe_length _ _) (fun jq v eq0 => (wipe_some eq0).1), st11, fun bq hbb => (f11 bq hbb).1, w1⟩
          rintro kq u12 ⟨jq, G12, K12, st12, n12, w12⟩
          rcases turn1 jq kq G12 w12 with ⟨stop1, nx1⟩ | ⟨go1, Nx1, hNx1, step1⟩
          · refine thnF (T1.done (X.blk u3 G3 sco ce0 fq) rfl rfl rfl hcc jq _ u12 (wipe σ8 vs1) G12 (fun _ _ => False) K12 (stat1 n12) st12 stop1) fun r u13 ⟨hrr, K13⟩ => ?_
            subst hrr
            exact fnn K13 (hl8.trans (wipe_length σ8 vs1).symm) hk9 nx1
          · refine thnF (T1.item (X.blk u3 G3 sco ce0 fq) rfl rfl rfl hcc jq _ u12 (wipe σ8 vs1) G12 (fun _ _ => False) K12 (stat1 n12) st12 go1) fun r u13 ⟨u1, hrr, h13⟩ => ?_
            subst hrr
            refine thnF h13 fun _ u14 ⟨x1, G14, K14, r14, y14, st14, n14⟩ => ?_
            have K14' := K14.pinned (stat1 n14) (T1.obj _ _ st14)
            refine thnF (pg1.run _ u14 (wipe σ8 vs1) G14 x1 u1 _ K14' r14 (step1 x1 G14 y14)) fun _ u15 ⟨σ15, G15, K15, hw15, q15⟩ => ?_
            refine thnF (pt1.run _ u15 σ15 G15 _ K15 q15) fun b1 u16 ⟨G16, K16, q16⟩ => ?_
            have fin1 : ∀ {s' : Shared} {G' : Hp}, Inv (X.blk u3 G3 sco ce0 fq) (([] ++ pinsAt fq u7.heap) ++ pinsAt fq1 u14.heap) σ15 G' s' → Nx1 G' → ∃ mm, mm < kq ∧ ∃ jq G', Inv (X.blk u3 G3 sco ce0 fq) ([] ++ pinsAt fq u7.heap) (wipe σ8 vs1) G' s' ∧ tn1 jq s'.heap ∧ (∀ bq ∈ fq1, G' bq = none) ∧ W1 jq mm G' := fun {s' G'} K' nx => by
              obtain ⟨mq, hmm, wq⟩ := hNx1 G' nx
              have pn' : ∀ bq ∈ fq1, ∀ o, u14.heap.get? bq = some o → s'.heap.get? bq = some o ∧ G' bq = none := fun bq hbb o eq0 =>
                let zq := K'.pin (bq, o) (List.mem_append_right _ (List.mem_append_right _ (mem_pinsAt hbb eq0)))
                ⟨zq.1, zq.2.1⟩
              refine ⟨mq, hmm, jq + 1, G', K'.unpinned.weak (by rw [← hw15, wipe_length]) (fun jq v eq0 => by rw [← hw15] at eq0; exact (wipe_some eq0).1), T1.keep _ _ _ st14 fun bq hbb o eq0 => (pn' bq hbb o eq0).1, fun bq hbb => ?_, wq⟩
              obtain ⟨o, eq0, _⟩ := T1.obj _ _ st14 bq hbb
              exact (pn' bq hbb o eq0).2
            cases b1 with
            | false =>
              simp only [Bool.false_eq_true, if_false] at q16 ⊢
              exact fin1 K16 q16
            | true =>
              simp only [if_true] at q16 ⊢
              refine thnF (pk.run _ u16 σ15 G16 _ K16 q16) fun zq s17 ⟨yk, H17, I17, r17, q17⟩ => ?_
              refine thnF (pe.run _ s17 σ15 H17 _ I17 q17) fun z2 s18 ⟨yv, H18, I18, r18, kvs, k2, ek, hD18, hz18, nx⟩ => ?_
              subst ek
              exact d_dictSet (X := X.blk u3 G3 sco ce0 fq) I18 hD18 hz18 r17 r18 fun s19 I19 => fin1 I19 nx
        exact csd1_ok loop1 (T1.self X.A 0 _ _ _ st11 loop1)
  exact codeAny_compStart_dict lup (Tt.self X.A 0 _ _ _ su4 lup)
theorem pe_dc2 {kx vx tg itr tg1 itr1 : Expr} {jfs jfs1 : List Expr} {sco : Scope} {ows : List (Str × Nat)} {vs1 : List Nat} {po : Pos} {wi0 wi1 : TI} {g g1 : TG} {tt tt1 : TT} {tk tv : TE} (hcc : X.calm = true) (hNn : X.N.Nodup) (hi : PI X tg itr wi0) (ok : BlkOk X.N X.env.scope sco ows) (hv : ∀ iq ∈ vs1, iq ∈ ows.map (·.2))
    (hg : ∀ (s : Shared) (H : Hp) (C : Addr) (clo : List (Str × Addr)) (fq : List Addr), PG (X.blk s H sco (compEnvC sco clo C X.env) fq) tg g) (ht : ∀ (s : Shared) (H : Hp) (C : Addr) (clo : List (Str × Addr)) (fq : List Addr), PTs (X.blk s H sco (compEnvC sco clo C X.env) fq) jfs tt)
    (hi1 : ∀ (s : Shared) (H : Hp) (C : Addr) (clo : List (Str × Addr)) (fq : List Addr), PI (X.blk s H sco (compEnvC sco clo C X.env) fq) tg1 itr1 wi1)
    (hg1 : ∀ (s : Shared) (H : Hp) (C : Addr) (clo : List (Str × Addr)) (fq : List Addr), PG (X.blk s H sco (compEnvC sco clo C X.env) fq) tg1 g1) (ht1 : ∀ (s : Shared) (H : Hp) (C : Addr) (clo : List (Str × Addr)) (fq : List Addr), PTs (X.blk s H sco (compEnvC sco clo C X.env) fq) jfs1 tt1)
    (hk : ∀ (s : Shared) (H : Hp) (C : Addr) (clo : List (Str × Addr)) (fq : List Addr), PE (X.blk s H sco (compEnvC sco clo C X.env) fq) kx tk)
    (he : ∀ (s : Shared) (H : Hp) (C : Addr) (clo : List (Str × Addr)) (fq : List Addr), PE (X.blk s H sco (compEnvC sco clo C X.env) fq) vx tv) (hss : ∀ xq, foldedSetIterable itr X.env xq = pure xq := by intro _; rfl) (hs1 : ∀ env xq, foldedSetIterable itr1 env xq = pure xq := by intro _ _; rfl) :
    PE X (.DictComp kx vx [⟨tg, itr, jfs, 0⟩, ⟨tg1, itr1, jfs1, 0⟩] sco po) (tDc2 wi0 g tt wi1 g1 tt1 tk tv (ows.map (·.2)) vs1) := by
  refine ⟨fun pins s σ H Q I hh => ?_⟩
  rw [arm_eval_DictComp]
  refine dc2_core hcc hNn I hi ok hv hg ht hk he hss hi1 hg1 ht1 hs1 hh fun D C s' mm G' K' q hnn f => ⟨mm, hnn, fun h'' sb => ?_⟩
  obtain ⟨f0, f1, f2, g4, f4, f5⟩ := f
  exact ⟨.ref D, G', K'.turned (t' := s'.toks) (fun bq o hbb eq0 => (sb.2 bq hbb).trans eq0) f0 f1 g4 f4 f5, rfl, q⟩
end

end Qz
end
section
set_option Elab.async false
set_option linter.all false
set_option autoImplicit false
set_option maxRecDepth 100000

/-! Comprehensions of two clauses, of dicts. -/
namespace Qd
open PySem PySem.Spec PyProof.Rows L2

def runLc2 (t : FG) (vs : List Nat) (ts : FT) (f1 : FA) (t1 : FG) (vs1 : List Nat) (ts1 : FT) (fe : FE) : List D → Env → MS → R (List D)
  | [], e, m => .ok [] e m
  | d :: ds, e, m => match t d (clw vs e) with
    | none => .no
    | some e1 => (ts e1 m).bindN fun b e2 m2 => if b then (f1 e2 m2).bindN fun ds1 e3 m3 => (runLc t1 vs1 ts1 fe ds1 e3 m3).bindN fun l1 e4 m4 => (runLc2 t vs ts f1 t1 vs1 ts1 fe ds e4 m4).bindN fun r e m => .ok (l1 ++ r) e m
      else runLc2 t vs ts f1 t1 vs1 ts1 fe ds e2 m2
def xLc2 (f : FA) (t : FG) (vs : List Nat) (ts : FT) (f1 : FA) (t1 : FG) (vs1 : List Nat) (ts1 : FT) (fe : FE) : FE := fun e m => (f e m).bind fun ds e0 m0 => if okW e0 vs then (runLc2 t vs ts f1 t1 vs1 ts1 fe ds e0 m0).bindN fun l e1 m1 => if l.length ≤ 16777216 then .ok (.lst l) (rst e0 vs e1) m1 else .no else .no
section
variable {X : Cx} {c : C0} {Wx : WX} {elt tg iter tg1 iter1 kx vx : Expr} {ifs ifs1 : List Expr} {scope : Scope} {own : List (Str × Nat)} {vs1 : List Nat} {pos : Pos} {f f1 : FA} {t t1 : FG} {T T1 : List Nat} {ts ts1 : FT} {fe fk fv : FE}
theorem ee_lc2 (hc : X.calm = true) (hN : X.N.Nodup) (hi : EI X c Wx tg iter f) (ok : BlkOk X.N X.env.scope scope own) (hv : ∀ i ∈ vs1, i ∈ own.map (·.2)) (hT : ∀ i ∈ T, i ∈ own.map (·.2)) (hT1 : ∀ i ∈ T1, i ∈ vs1)
    (hg : ∀ (c : C0) (s : Shared) (H : Hp) (C : Addr) (cl : List (Str × Addr)) (fp : List Addr), EG (X.blk s H scope (compEnvC scope cl C X.env) fp) c tg T t)
    (ht : ∀ (c : C0) (s : Shared) (H : Hp) (C : Addr) (cl : List (Str × Addr)) (fp : List Addr), ETs (X.blk s H scope (compEnvC scope cl C X.env) fp) c W0 ifs ts)
    (hi1 : ∀ (c : C0) (s : Shared) (H : Hp) (C : Addr) (cl : List (Str × Addr)) (fp : List Addr), EI (X.blk s H scope (compEnvC scope cl C X.env) fp) c W0 tg1 iter1 f1)
    (hg1 : ∀ (c : C0) (s : Shared) (H : Hp) (C : Addr) (cl : List (Str × Addr)) (fp : List Addr), EG (X.blk s H scope (compEnvC scope cl C X.env) fp) c tg1 T1 t1)
    (ht1 : ∀ (c : C0) (s : Shared) (H : Hp) (C : Addr) (cl : List (Str × Addr)) (fp : List Addr), ETs (X.blk s H scope (compEnvC scope cl C X.env) fp) c W0 ifs1 ts1)
    (he : ∀ (c : C0) (s : Shared) (H : Hp) (C : Addr) (cl : List (Str × Addr)) (fp : List Addr), EE (X.blk s H scope (compEnvC scope cl C X.env) fp) c W0 elt fe)
    (hs : ∀ x, foldedSetIterable iter X.env x = pure x := by intro _; rfl) (hs1 : ∀ env x, foldedSetIterable iter1 env x = pure x := by intro _ _; rfl) :
    EE X c Wx (.ListComp elt [⟨tg, iter, ifs, 0⟩, ⟨tg1, iter1, ifs1, 0⟩] scope pos) (xLc2 f t (own.map (·.2)) ts f1 t1 vs1 ts1 fe) := by
  have hg' : ∀ (s : Shared) (H : Hp) (C : Addr) (cl : List (Str × Addr)) (fp : List Addr), PG (X.blk s H scope (compEnvC scope cl C X.env) fp) tg (fun v σ H Q => ∃ c, tG X.K X.mg c T t v σ H Q) := fun s H C cl fp => ⟨fun pins s' σ H' v u Q I r ⟨c, q⟩ => (hg c s H C cl fp).run pins s' σ H' v u Q I r q⟩
  have ht' : ∀ (s : Shared) (H : Hp) (C : Addr) (cl : List (Str × Addr)) (fp : List Addr), PTs (X.blk s H scope (compEnvC scope cl C X.env) fp) ifs (fun σ H Q => ∃ c, tT X.K X.mg c W0 ts σ H Q) := fun s H C cl fp => ⟨fun pins s' σ H' Q I ⟨c, q⟩ => (ht c s H C cl fp).run pins s' σ H' Q I q⟩
  have hi1' : ∀ (s : Shared) (H : Hp) (C : Addr) (cl : List (Str × Addr)) (fp : List Addr), PI (X.blk s H scope (compEnvC scope cl C X.env) fp) tg1 iter1 (fun σ H Q => ∃ c, tI X.K X.mg c W0 f1 σ H Q) := fun s H C cl fp => ⟨fun pins s' σ H' Q I ⟨c, q⟩ => (hi1 c s H C cl fp).run pins s' σ H' Q I q⟩
  have hg1' : ∀ (s : Shared) (H : Hp) (C : Addr) (cl : List (Str × Addr)) (fp : List Addr), PG (X.blk s H scope (compEnvC scope cl C X.env) fp) tg1 (fun v σ H Q => ∃ c, tG X.K X.mg c T1 t1 v σ H Q) := fun s H C cl fp => ⟨fun pins s' σ H' v u Q I r ⟨c, q⟩ => (hg1 c s H C cl fp).run pins s' σ H' v u Q I r q⟩
  have ht1' : ∀ (s : Shared) (H : Hp) (C : Addr) (cl : List (Str × Addr)) (fp : List Addr), PTs (X.blk s H scope (compEnvC scope cl C X.env) fp) ifs1 (fun σ H Q => ∃ c, tT X.K X.mg c W0 ts1 σ H Q) := fun s H C cl fp => ⟨fun pins s' σ H' Q I ⟨c, q⟩ => (ht1 c s H C cl fp).run pins s' σ H' Q I q⟩
  have he' : ∀ (s : Shared) (H : Hp) (C : Addr) (cl : List (Str × Addr)) (fp : List Addr), PE (X.blk s H scope (compEnvC scope cl C X.env) fp) elt (fun σ H Q => ∃ c, tE X.K X.mg c W0 fe σ H Q) := fun s H C cl fp => ⟨fun pins s' σ H' Q I ⟨c, q⟩ => (he c s H C cl fp).run pins s' σ H' Q I q⟩
  refine (pe_lc2 hc hN hi ok hv hg' ht' hi1' hg1' ht1' he' hs hs1).impQ fun σ H Q ⟨W, o, e, m, M, h⟩ => ⟨W, o, e, m, M, (Post.bind (Rp := RpW X.K X.mg) h).mono fun J H1 ⟨W1, o1, e1, m1, ds, u1, M1, wk, h1⟩ => ?_⟩
  obtain ⟨⟨w1, w2⟩, wl⟩ := (show WalkD X.K X.mg W1 ds J ∧ ds.length ≤ sizeLine from wk)
  split at h1
  case isFalse => exact h1.elim
  rename_i hw
  generalize own.map (·.2) = vs at hT hv hw h1 ⊢
  intro D hD
  obtain ⟨l, ef, mf, hl⟩ : ∃ l ef mf, runLc2 t vs ts f1 t1 vs1 ts1 fe ds e1 m1 = .ok l ef mf := by
    cases q : runLc2 t vs ts f1 t1 vs1 ts1 fe ds e1 m1 with
    | ok l e m => exact ⟨l, e, m, rfl⟩
    | ex n ns vs e m => rw [q] at h1; exact h1.elim
    | no => rw [q] at h1; exact h1.elim
  rw [hl] at h1
  simp only [R.bindN_ok] at h1
  split at h1
  case isFalse => exact h1.elim
  rename_i hll
  have nI := M1.newIn hD
  refine ⟨fun i n H => i + n = ds.length ∧ ∃ W2 o2 e2 m2 acc accv rest, Up W1 W2 ∧ Mt X.K X.mg (cD c D (.lst accv)) W2 o2 (wipe σ vs) H (clw vs e2) m2 ∧ Reps X.K X.mg W2 acc accv ∧ runLc2 t vs ts f1 t1 vs1 ts1 fe (ds.drop i) e2 m2 = .ok rest ef mf ∧ acc ++ rest = l,
    ⟨ds.length, by omega, W1, o1, e1, m1, [], [], l, Up.refl W1, (M1.toD hD).wiped vs, rfl, hl, rfl⟩, fun i n H ⟨hn, W2, o2, e2, m2, acc, accv, rest, u2, M2, ra, hr, hal⟩ => ?_⟩
  have hs2 : ∀ a o, W1.P a = some o → H a = some o := fun a o z => M2.sub a o (u2.P a o z)
  by_cases hi : i < ds.length
  · obtain ⟨d, hd, ed⟩ := drop_cons hi
    obtain ⟨g1, g2⟩ := w1 i d H hs2 hd
    rw [ed] at hr
    refine .inr ⟨g1, fun H' => ∃ W2 o2 e2 m2 acc accv rest, Up W1 W2 ∧ Mt X.K X.mg (cD c D (.lst accv)) W2 o2 (wipe σ vs) H' (clw vs e2) m2 ∧ Reps X.K X.mg W2 acc accv ∧ runLc2 t vs ts f1 t1 vs1 ts1 fe (ds.drop (i + 1)) e2 m2 = .ok rest ef mf ∧ acc ++ rest = l,
      fun H' k => ⟨n - 1, by omega, by omega, k⟩, fun x H' y => ?_⟩
    obtain ⟨W3, u3, M3, r3⟩ := M2.yld u2 (g2 x H' y)
    unfold runLc2 at hr
    split at hr
    · cases hr
    rename_i e3 he3
    obtain ⟨b, e4, m4, hb, hr⟩ := R.bindN_is hr
    refine ⟨_, W3, o2, _, m2, d, M3, r3, e3, he3, fun o' σ' off M4 => ?_⟩
    have hwp : wipe σ' vs = wipe σ vs := (off.wipe hT).trans (wipe_wipe fun _ z => z)
    refine ⟨hwp, cD c D (.lst accv), W3, o', e3, m2, M4, ?_⟩
    rw [hb]
    intro W5 o5 H5 k u5 M5 ek
    have ek : b = k := ek
    subst ek
    cases b with
    | false =>
      simp only [Bool.false_eq_true, if_false] at hr ⊢
      exact ⟨W5, o5, e4, m4, acc, accv, rest, u2.trans (u3.trans u5), hwp ▸ M5.wiped vs, ra.up (u3.trans u5), hr, hal⟩
    | true =>
      simp only [if_true] at hr ⊢
      obtain ⟨ds1, e6, m6, hy, hr⟩ := R.bindN_is hr
      obtain ⟨l1, e7, m7, h7, hr⟩ := R.bindN_is hr
      obtain ⟨rs, e8, m8, h8, hr⟩ := R.bindN_is hr
      cases hr
      refine ⟨cD c D (.lst accv), W5, o5, e4, m4, M5, ?_⟩
      rw [hy]
      intro W6 o6 H6 J1 u6 M6 wk1
      obtain ⟨⟨v1, v2⟩, vl⟩ := (show WalkD X.K X.mg W6 ds1 J1 ∧ ds1.length ≤ sizeLine from wk1)
      have hu16 : Up W1 W6 := u2.trans (u3.trans (u5.trans u6))
      refine ⟨fun j n H => j + n = ds1.length ∧ ∃ W2 o2 e2 m2 acc accv rest, Up W6 W2 ∧ Mt X.K X.mg (cD c D (.lst accv)) W2 o2 (wipe σ' vs1) H (clw vs1 e2) m2 ∧ Reps X.K X.mg W2 acc accv ∧ runLc t1 vs1 ts1 fe (ds1.drop j) e2 m2 = .ok rest e7 m7 ∧ acc ++ (rest ++ rs) = l,
        ⟨ds1.length, by omega, W6, o6, e6, m6, acc, accv, l1, Up.refl W6, M6.wiped vs1, ra.up (u3.trans (u5.trans u6)), h7, hal⟩, fun j n H ⟨hn, W7, o7, e2', m2', acc', accv', rest', u7, M7, ra', hr', hal'⟩ => ?_⟩
      have hs7 : ∀ a o, W6.P a = some o → H a = some o := fun a o z => M7.sub a o (u7.P a o z)
      by_cases hj : j < ds1.length
      · obtain ⟨d1, hd1, ed1⟩ := drop_cons hj
        obtain ⟨k1, k2⟩ := v1 j d1 H hs7 hd1
        rw [ed1] at hr'
        refine .inr ⟨k1, fun H' => ∃ W2 o2 e2 m2 acc accv rest, Up W6 W2 ∧ Mt X.K X.mg (cD c D (.lst accv)) W2 o2 (wipe σ' vs1) H' (clw vs1 e2) m2 ∧ Reps X.K X.mg W2 acc accv ∧ runLc t1 vs1 ts1 fe (ds1.drop (j + 1)) e2 m2 = .ok rest e7 m7 ∧ acc ++ (rest ++ rs) = l,
          fun H' k => ⟨n - 1, by omega, by omega, k⟩, fun x1 H' y1 => ?_⟩
        obtain ⟨W8, u8, M8, r8⟩ := M7.yld u7 (k2 x1 H' y1)
        unfold runLc at hr'
        split at hr'
        · cases hr'
        rename_i e9 he9
        obtain ⟨b1, e10, m10, hb1, hr'⟩ := R.bindN_is hr'
        refine ⟨_, W8, o7, _, m2', d1, M8, r8, e9, he9, fun o'' σ'' off1 M9 => ?_⟩
        have hwp1 : wipe σ'' vs1 = wipe σ' vs1 := (off1.wipe hT1).trans (wipe_wipe fun _ z => z)
        refine ⟨hwp1, cD c D (.lst accv'), W8, o'', e9, m2', M9, ?_⟩
        rw [hb1]
        intro W10 o10 H10 k u10 M10 ek
        have ek : b1 = k := ek
        subst ek
        cases b1 with
        | false =>
          simp only [Bool.false_eq_true, if_false] at hr' ⊢
          exact ⟨W10, o10, e10, m10, acc', accv', rest', u7.trans (u8.trans u10), hwp1 ▸ M10.wiped vs1, ra'.up (u8.trans u10), hr', hal'⟩
        | true =>
          simp only [if_true] at hr' ⊢
          obtain ⟨yd, e11, m11, hy1, hr'⟩ := R.bindN_is hr'
          obtain ⟨rs1, e12, m12, h12, hr'⟩ := R.bindN_is hr'
          cases hr'
          refine ⟨cD c D (.lst accv'), W10, o10, e10, m10, M10, ?_⟩
          rw [hy1]
          intro W11 o11 H11 v u11 M11 r11
          refine ⟨accv', M11.D_H nI, ?_, ?_⟩
          · have h1 := ra'.len
            have h2 := congrArg List.length hal'
            simp only [List.length_append, List.length_cons] at h2
            show _ < 16777216
            omega
          · exact ⟨W11, o11, e11, m11, acc' ++ [yd], accv' ++ [v], rs1, u7.trans (u8.trans (u10.trans u11)), hwp1 ▸ (M11.pokeD nI).wiped vs1, ra'.snoc (u8.trans (u10.trans u11)) r11, h12, by rw [← hal']; simp⟩
      · refine .inl ⟨v2 j H hs7 (by omega), ?_⟩
        rw [List.drop_of_length_le (by omega)] at hr'
        cases hr'
        have M12 := M7.wiped vs
        rw [wipe_wipe hv, hwp] at M12
        refine ⟨W7, o7, _, _, acc', accv', rs, hu16.trans u7, ?_, ra', h8, by simpa using hal'⟩
        refine M12.swap (by rw [clw_len, wipe_length]; have := M7.len; rw [clw_len, wipe_length] at this; rw [this]; exact off.1.trans (wipe_length σ vs)) fun i s q => ?_
        obtain ⟨q1, q2⟩ := clw_some q
        refine .inl ⟨?_, rfl⟩
        rw [clw_out q2, clw_out fun z => q2 (hv i z)]
        exact q1
  · refine .inl ⟨w2 i H hs2 (by omega), ?_⟩
    rw [List.drop_of_length_le (by omega)] at hr
    cases hr
    rw [List.append_nil] at hal
    subst hal
    have hDP := M2.D_P nI
    exact h1 _ o2 H (.ref D) (u2.trans (up_put hDP)) ((M1.rested hw u2 M2).keepD nI) (rep_lst hDP hll ra)
end
end Qd
end
section
set_option Elab.async false
set_option linter.all false
set_option autoImplicit false
set_option maxRecDepth 100000

/-! Dict comprehensions by functions. -/
namespace Qd
open PySem PySem.Spec PyProof.Rows L2

def hasKey (ks : List D) (q : Key) : Bool := ks.any fun k => decide (keyK k = some q)
def putDk (ks : List D) (q : Key) : List D := if hasKey ks q then ks else ks ++ [keyD q]
def putDv (ks vs : List D) (q : Key) (v : D) : List D := if hasKey ks q then List.zipWith (fun k w => if keyK k = some q then v else w) ks vs else vs ++ [v]
theorem hasKey_rep {kvs : List (Key × V)} {q : Key} : hasKey (kvs.map fun p => keyD p.1) q = kvs.any fun kv => decide (kv.1 = q) := by
  unfold hasKey
  rw [List.any_map]
  congr 1
  funext p
  simp [Function.comp, keyK_keyD]
section
variable {K : PySem.W.Frag} {mg : Str → Option Value} {W : Wd}
theorem rep_okKey {k : D} {q : Key} {v : V} (h : keyK k = some q) (r : Rep K mg W k v) : okKey q = true := by
  cases k with
  | int i => cases h; rfl
  | str s => cases h; exact r.2
  | _ => cases h
theorem putK_reps {q : Key} {d : D} {v : V} (rv : Rep K mg W d v) : ∀ {kvs : List (Key × V)} {vs : List D}, Reps K mg W vs (kvs.map (·.2)) →
    Reps K mg W (List.zipWith (fun k w => if keyK k = some q then d else w) (kvs.map fun p => keyD p.1) vs) ((kvs.map fun kv => if kv.1 = q then (kv.1, v) else kv).map (·.2))
  | [], vs, r => by
    have e := r.len
    simp only [List.map_nil, List.length_nil, List.length_eq_zero_iff] at e
    subst e
    exact rfl
  | p :: kvs, [], r => by cases r
  | p :: kvs, w :: vs, r => by
    obtain ⟨x, xs, e, r1, r2⟩ := r
    cases e
    have ih := putK_reps (q := q) rv r2
    simp only [List.map_cons, List.zipWith_cons_cons, keyK_keyD, Option.some.injEq]
    by_cases z : p.1 = q
    · rw [if_pos z, if_pos z]
      exact ⟨_, _, rfl, rv, ih⟩
    · rw [if_neg z, if_neg z]
      exact ⟨_, _, rfl, r1, ih⟩
theorem putD_rep {kvs : List (Key × V)} {ks vs : List D} {q : Key} {d : D} {v : V} (hk : KeysD ks kvs) (r : Reps K mg W vs (kvs.map (·.2))) (rv : Rep K mg W d v) (ok : okKey q = true) (hl : kvs.length < sizeLine) :
    KeysD (putDk ks q) (putK kvs q v) ∧ Reps K mg W (putDv ks vs q d) ((putK kvs q v).map (·.2)) := by
  obtain ⟨rfl, h1, h2⟩ := hk
  unfold putDk putDv putK
  rw [hasKey_rep]
  by_cases z : (kvs.any fun kv => decide (kv.1 = q)) = true
  · rw [if_pos z, if_pos z, if_pos z]
    refine ⟨⟨?_, fun p hp => ?_, by rw [List.length_map]; exact h2⟩, putK_reps rv r⟩
    · rw [List.map_map]
      apply List.map_congr_left
      intro p _
      simp only [Function.comp]
      split <;> rfl
    · obtain ⟨p', hp', rfl⟩ := List.mem_map.mp hp
      split
      · exact h1 p' hp'
      · exact h1 p' hp'
  · rw [if_neg z, if_neg z, if_neg z]
    refine ⟨⟨by simp, fun p hp => ?_, by rw [List.length_append]; simp; omega⟩, ?_⟩
    · rcases List.mem_append.mp hp with hp | hp
      · exact h1 p hp
      · simp at hp
        subst hp
        exact ok
    · rw [List.map_append]
      exact r.append (Reps.one rv)
end
def runDc (t : FG) (vs : List Nat) (ts : FT) (fk fv : FE) : List D → List D × List D → Env → MS → R (List D × List D)
  | [], p, e, m => .ok p e m
  | d :: ds, p, e, m => match t d (clw vs e) with
    | none => .no
    | some e1 => (ts e1 m).bindN fun b e2 m2 => if b then (fk e2 m2).bindN fun k e3 m3 => (fv e3 m3).bindN fun v e4 m4 => match keyK k with
        | some q => runDc t vs ts fk fv ds (putDk p.1 q, putDv p.1 p.2 q v) e4 m4
        | none => .no
      else runDc t vs ts fk fv ds p e2 m2
def xDc (f : FA) (t : FG) (vs : List Nat) (ts : FT) (fk fv : FE) : FE := fun e m => (f e m).bind fun ds e0 m0 => if okW e0 vs then (runDc t vs ts fk fv ds ([], []) e0 m0).bindN fun l e1 m1 => .ok (.dic l.1 l.2) (rst e0 vs e1) m1 else .no
def runDc2 (t : FG) (vs : List Nat) (ts : FT) (f1 : FA) (t1 : FG) (vs1 : List Nat) (ts1 : FT) (fk fv : FE) : List D → List D × List D → Env → MS → R (List D × List D)
  | [], p, e, m => .ok p e m
  | d :: ds, p, e, m => match t d (clw vs e) with
    | none => .no
    | some e1 => (ts e1 m).bindN fun b e2 m2 => if b then (f1 e2 m2).bindN fun ds1 e3 m3 => (runDc t1 vs1 ts1 fk fv ds1 p e3 m3).bindN fun p4 e4 m4 => runDc2 t vs ts f1 t1 vs1 ts1 fk fv ds p4 e4 m4
      else runDc2 t vs ts f1 t1 vs1 ts1 fk fv ds p e2 m2
def xDc2 (f : FA) (t : FG) (vs : List Nat) (ts : FT) (f1 : FA) (t1 : FG) (vs1 : List Nat) (ts1 : FT) (fk fv : FE) : FE := fun e m => (f e m).bind fun ds e0 m0 => if okW e0 vs then (runDc2 t vs ts f1 t1 vs1 ts1 fk fv ds ([], []) e0 m0).bindN fun l e1 m1 => if l.1.length < 16777216 then .ok (.dic l.1 l.2) (rst e0 vs e1) m1 else .no else .no
theorem putDk_len (ks : List D) (q : Key) : ks.length ≤ (putDk ks q).length ∧ (putDk ks q).length ≤ ks.length + 1 := by
  unfold putDk
  split
  · omega
  · rw [List.length_append]
    simp
theorem runDc_len {t : FG} {vs : List Nat} {ts : FT} {fk fv : FE} : ∀ {ds : List D} {p p' : List D × List D} {e e' : Env} {m m' : MS}, runDc t vs ts fk fv ds p e m = .ok p' e' m' → p.1.length ≤ p'.1.length
  | [], p, p', e, e', m, m', h => by
    cases h
    exact Nat.le_refl _
  | d :: ds, p, p', e, e', m, m', h => by
    unfold runDc at h
    split at h
    · cases h
    obtain ⟨b, e2, m2, _, h⟩ := R.bindN_is h
    split at h
    · obtain ⟨k, e3, m3, _, h⟩ := R.bindN_is h
      obtain ⟨v, e4, m4, _, h⟩ := R.bindN_is h
      split at h
      · rename_i q _
        have := runDc_len h
        have := (putDk_len p.1 q).1
        simp only at *
        omega
      · cases h
    · exact runDc_len h
theorem runDc2_len {t : FG} {vs : List Nat} {ts : FT} {f1 : FA} {t1 : FG} {vs1 : List Nat} {ts1 : FT} {fk fv : FE} : ∀ {ds : List D} {p p' : List D × List D} {e e' : Env} {m m' : MS}, runDc2 t vs ts f1 t1 vs1 ts1 fk fv ds p e m = .ok p' e' m' → p.1.length ≤ p'.1.length
  | [], p, p', e, e', m, m', h => by
    cases h
    exact Nat.le_refl _
  | d :: ds, p, p', e, e', m, m', h => by
    unfold runDc2 at h
    split at h
    · cases h
    obtain ⟨b, e2, m2, _, h⟩ := R.bindN_is h
    split at h
    · obtain ⟨ds1, e3, m3, _, h⟩ := R.bindN_is h
      obtain ⟨p4, e4, m4, h4, h⟩ := R.bindN_is h
      exact Nat.le_trans (runDc_len h4) (runDc2_len h)
    · exact runDc2_len h
section
variable {X : Cx} {c : C0} {Wx : WX} {elt tg iter tg1 iter1 kx vx : Expr} {ifs ifs1 : List Expr} {scope : Scope} {own : List (Str × Nat)} {vs1 : List Nat} {pos : Pos} {f f1 : FA} {t t1 : FG} {T T1 : List Nat} {ts ts1 : FT} {fe fk fv : FE}
theorem ee_dc (hc : X.calm = true) (hN : X.N.Nodup) (hi : EI X c Wx tg iter f) (ok : BlkOk X.N X.env.scope scope own) (hT : ∀ i ∈ T, i ∈ own.map (·.2))
    (hg : ∀ (c : C0) (s : Shared) (H : Hp) (C : Addr) (cl : List (Str × Addr)) (fp : List Addr), EG (X.blk s H scope (compEnvC scope cl C X.env) fp) c tg T t)
    (ht : ∀ (c : C0) (s : Shared) (H : Hp) (C : Addr) (cl : List (Str × Addr)) (fp : List Addr), ETs (X.blk s H scope (compEnvC scope cl C X.env) fp) c W0 ifs ts)
    (hk : ∀ (c : C0) (s : Shared) (H : Hp) (C : Addr) (cl : List (Str × Addr)) (fp : List Addr), EE (X.blk s H scope (compEnvC scope cl C X.env) fp) c W0 kx fk)
    (he : ∀ (c : C0) (s : Shared) (H : Hp) (C : Addr) (cl : List (Str × Addr)) (fp : List Addr), EE (X.blk s H scope (compEnvC scope cl C X.env) fp) c W0 vx fv)
    (hs : ∀ x, foldedSetIterable iter X.env x = pure x := by intro _; rfl) : EE X c Wx (.DictComp kx vx [⟨tg, iter, ifs, 0⟩] scope pos) (xDc f t (own.map (·.2)) ts fk fv) := by
  have hg' : ∀ (s : Shared) (H : Hp) (C : Addr) (cl : List (Str × Addr)) (fp : List Addr), PG (X.blk s H scope (compEnvC scope cl C X.env) fp) tg (fun v σ H Q => ∃ c, tG X.K X.mg c T t v σ H Q) := fun s H C cl fp => ⟨fun pins s' σ H' v u Q I r ⟨c, q⟩ => (hg c s H C cl fp).run pins s' σ H' v u Q I r q⟩
  have ht' : ∀ (s : Shared) (H : Hp) (C : Addr) (cl : List (Str × Addr)) (fp : List Addr), PTs (X.blk s H scope (compEnvC scope cl C X.env) fp) ifs (fun σ H Q => ∃ c, tT X.K X.mg c W0 ts σ H Q) := fun s H C cl fp => ⟨fun pins s' σ H' Q I ⟨c, q⟩ => (ht c s H C cl fp).run pins s' σ H' Q I q⟩
  have hk' : ∀ (s : Shared) (H : Hp) (C : Addr) (cl : List (Str × Addr)) (fp : List Addr), PE (X.blk s H scope (compEnvC scope cl C X.env) fp) kx (fun σ H Q => ∃ c, tE X.K X.mg c W0 fk σ H Q) := fun s H C cl fp => ⟨fun pins s' σ H' Q I ⟨c, q⟩ => (hk c s H C cl fp).run pins s' σ H' Q I q⟩
  have he' : ∀ (s : Shared) (H : Hp) (C : Addr) (cl : List (Str × Addr)) (fp : List Addr), PE (X.blk s H scope (compEnvC scope cl C X.env) fp) vx (fun σ H Q => ∃ c, tE X.K X.mg c W0 fv σ H Q) := fun s H C cl fp => ⟨fun pins s' σ H' Q I ⟨c, q⟩ => (he c s H C cl fp).run pins s' σ H' Q I q⟩
  refine (pe_dc hc hN hi ok hg' ht' hk' he' hs).impQ fun σ H Q ⟨W, o, e, m, M, h⟩ => ⟨W, o, e, m, M, (Post.bind (Rp := RpW X.K X.mg) h).mono fun J H1 ⟨W1, o1, e1, m1, ds, u1, M1, wk, h1⟩ => ?_⟩
  obtain ⟨⟨w1, w2⟩, wl⟩ := (show WalkD X.K X.mg W1 ds J ∧ ds.length ≤ sizeLine from wk)
  split at h1
  case isFalse => exact h1.elim
  rename_i hw
  generalize own.map (·.2) = vs at hT hw h1 ⊢
  intro D hD
  obtain ⟨l, ef, mf, hl⟩ : ∃ l ef mf, runDc t vs ts fk fv ds ([], []) e1 m1 = .ok l ef mf := by
    cases q : runDc t vs ts fk fv ds ([], []) e1 m1 with
    | ok l e m => exact ⟨l, e, m, rfl⟩
    | ex n ns vs e m => rw [q] at h1; exact h1.elim
    | no => rw [q] at h1; exact h1.elim
  rw [hl] at h1
  have nI := M1.newIn hD
  refine ⟨fun i n H => i + n = ds.length ∧ ∃ W2 o2 e2 m2 ks us kvs, Up W1 W2 ∧ Mt X.K X.mg (cD c D (.dK kvs)) W2 o2 (wipe σ vs) H (clw vs e2) m2 ∧ KeysD ks kvs ∧ Reps X.K X.mg W2 us (kvs.map (·.2)) ∧ ks.length ≤ i ∧ runDc t vs ts fk fv (ds.drop i) (ks, us) e2 m2 = .ok l ef mf,
    ⟨ds.length, by omega, W1, o1, e1, m1, [], [], [], Up.refl W1, (M1.toD hD).wiped vs, ⟨rfl, by simp, Nat.zero_le _⟩, rfl, Nat.le_refl _, hl⟩, fun i n H ⟨hn, W2, o2, e2, m2, ks, us, kvs, u2, M2, hks, ra, hai, hr⟩ => ?_⟩
  have hs2 : ∀ a o, W1.P a = some o → H a = some o := fun a o z => M2.sub a o (u2.P a o z)
  by_cases hi : i < ds.length
  · obtain ⟨d, hd, ed⟩ := drop_cons hi
    obtain ⟨g1, g2⟩ := w1 i d H hs2 hd
    rw [ed] at hr
    refine .inr ⟨g1, fun H' => ∃ W2 o2 e2 m2 ks us kvs, Up W1 W2 ∧ Mt X.K X.mg (cD c D (.dK kvs)) W2 o2 (wipe σ vs) H' (clw vs e2) m2 ∧ KeysD ks kvs ∧ Reps X.K X.mg W2 us (kvs.map (·.2)) ∧ ks.length ≤ i + 1 ∧ runDc t vs ts fk fv (ds.drop (i + 1)) (ks, us) e2 m2 = .ok l ef mf,
      fun H' k => ⟨n - 1, by omega, by omega, k⟩, fun x H' y => ?_⟩
    obtain ⟨W3, u3, M3, r3⟩ := M2.yld u2 (g2 x H' y)
    unfold runDc at hr
    split at hr
    · cases hr
    rename_i e3 he3
    obtain ⟨b, e4, m4, hb, hr⟩ := R.bindN_is hr
    refine ⟨_, W3, o2, _, m2, d, M3, r3, e3, he3, fun o' σ' off M4 => ?_⟩
    have hwp : wipe σ' vs = wipe σ vs := (off.wipe hT).trans (wipe_wipe fun _ z => z)
    refine ⟨hwp, cD c D (.dK kvs), W3, o', e3, m2, M4, ?_⟩
    rw [hb]
    intro W5 o5 H5 k u5 M5 ek
    have ek : b = k := ek
    subst ek
    cases b with
    | false =>
      simp only [Bool.false_eq_true, if_false] at hr ⊢
      exact ⟨W5, o5, e4, m4, ks, us, kvs, u2.trans (u3.trans u5), hwp ▸ M5.wiped vs, hks, ra.up (u3.trans u5), by omega, hr⟩
    | true =>
      simp only [if_true] at hr ⊢
      obtain ⟨kd, e6, m6, hy, hr⟩ := R.bindN_is hr
      obtain ⟨vd, e7, m7, h7, hr⟩ := R.bindN_is hr
      split at hr
      case h_2 => cases hr
      rename_i q hq
      refine ⟨cD c D (.dK kvs), W5, o5, e4, m4, M5, ?_⟩
      rw [hy]
      intro W6 o6 H6 kv u6 M6 r6
      refine ⟨cD c D (.dK kvs), W6, o6, e6, m6, M6, ?_⟩
      rw [h7]
      intro W7 o7 H7 vv u7 M7 r7
      have hlt : kvs.length < sizeLine := by have := hks.len; omega
      have pr := putD_rep (q := q) hks (ra.up (u3.trans (u5.trans (u6.trans u7)))) r7 (rep_okKey hq r6) hlt
      refine ⟨kvs, q, rep_key hq r6, M7.D_H nI, hlt, W7, o7, e7, m7, putDk ks q, putDv ks us q vd, putK kvs q vv, u2.trans (u3.trans (u5.trans (u6.trans u7))), hwp ▸ (M7.pokeD nI).wiped vs, pr.1, pr.2, by have := (putDk_len ks q).2; omega, hr⟩
  · refine .inl ⟨w2 i H hs2 (by omega), ?_⟩
    rw [List.drop_of_length_le (by omega)] at hr
    cases hr
    have hDP := M2.D_P nI
    exact h1 _ o2 H (.ref D) (u2.trans (up_put hDP)) ((M1.rested hw u2 M2).keepD nI) (rep_dic hDP hks ra)
theorem ee_dc2 (hc : X.calm = true) (hN : X.N.Nodup) (hi : EI X c Wx tg iter f) (ok : BlkOk X.N X.env.scope scope own) (hv : ∀ i ∈ vs1, i ∈ own.map (·.2)) (hT : ∀ i ∈ T, i ∈ own.map (·.2)) (hT1 : ∀ i ∈ T1, i ∈ vs1)
    (hg : ∀ (c : C0) (s : Shared) (H : Hp) (C : Addr) (cl : List (Str × Addr)) (fp : List Addr), EG (X.blk s H scope (compEnvC scope cl C X.env) fp) c tg T t)
    (ht : ∀ (c : C0) (s : Shared) (H : Hp) (C : Addr) (cl : List (Str × Addr)) (fp : List Addr), ETs (X.blk s H scope (compEnvC scope cl C X.env) fp) c W0 ifs ts)
    (hi1 : ∀ (c : C0) (s : Shared) (H : Hp) (C : Addr) (cl : List (Str × Addr)) (fp : List Addr), EI (X.blk s H scope (compEnvC scope cl C X.env) fp) c W0 tg1 iter1 f1)
    (hg1 : ∀ (c : C0) (s : Shared) (H : Hp) (C : Addr) (cl : List (Str × Addr)) (fp : List Addr), EG (X.blk s H scope (compEnvC scope cl C X.env) fp) c tg1 T1 t1)
    (ht1 : ∀ (c : C0) (s : Shared) (H : Hp) (C : Addr) (cl : List (Str × Addr)) (fp : List Addr), ETs (X.blk s H scope (compEnvC scope cl C X.env) fp) c W0 ifs1 ts1)
    (hk : ∀ (c : C0) (s : Shared) (H : Hp) (C : Addr) (cl : List (Str × Addr)) (fp : List Addr), EE (X.blk s H scope (compEnvC scope cl C X.env) fp) c W0 kx fk)
    (he : ∀ (c : C0) (s : Shared) (H : Hp) (C : Addr) (cl : List (Str × Addr)) (fp : List Addr), EE (X.blk s H scope (compEnvC scope cl C X.env) fp) c W0 vx fv)
    (hs : ∀ x, foldedSetIterable iter X.env x = pure x := by intro _; rfl) (hs1 : ∀ env x, foldedSetIterable iter1 env x = pure x := by intro _ _; rfl) :
    EE X c Wx (.DictComp kx vx [⟨tg, iter, ifs, 0⟩, ⟨tg1, iter1, ifs1, 0⟩] scope pos) (xDc2 f t (own.map (·.2)) ts f1 t1 vs1 ts1 fk fv) := by
  have hg' : ∀ (s : Shared) (H : Hp) (C : Addr) (cl : List (Str × Addr)) (fp : List Addr), PG (X.blk s H scope (compEnvC scope cl C X.env) fp) tg (fun v σ H Q => ∃ c, tG X.K X.mg c T t v σ H Q) := fun s H C cl fp => ⟨fun pins s' σ H' v u Q I r ⟨c, q⟩ => (hg c s H C cl fp).run pins s' σ H' v u Q I r q⟩
  have ht' : ∀ (s : Shared) (H : Hp) (C : Addr) (cl : List (Str × Addr)) (fp : List Addr), PTs (X.blk s H scope (compEnvC scope cl C X.env) fp) ifs (fun σ H Q => ∃ c, tT X.K X.mg c W0 ts σ H Q) := fun s H C cl fp => ⟨fun pins s' σ H' Q I ⟨c, q⟩ => (ht c s H C cl fp).run pins s' σ H' Q I q⟩
  have hi1' : ∀ (s : Shared) (H : Hp) (C : Addr) (cl : List (Str × Addr)) (fp : List Addr), PI (X.blk s H scope (compEnvC scope cl C X.env) fp) tg1 iter1 (fun σ H Q => ∃ c, tI X.K X.mg c W0 f1 σ H Q) := fun s H C cl fp => ⟨fun pins s' σ H' Q I ⟨c, q⟩ => (hi1 c s H C cl fp).run pins s' σ H' Q I q⟩
  have hg1' : ∀ (s : Shared) (H : Hp) (C : Addr) (cl : List (Str × Addr)) (fp : List Addr), PG (X.blk s H scope (compEnvC scope cl C X.env) fp) tg1 (fun v σ H Q => ∃ c, tG X.K X.mg c T1 t1 v σ H Q) := fun s H C cl fp => ⟨fun pins s' σ H' v u Q I r ⟨c, q⟩ => (hg1 c s H C cl fp).run pins s' σ H' v u Q I r q⟩
  have ht1' : ∀ (s : Shared) (H : Hp) (C : Addr) (cl : List (Str × Addr)) (fp : List Addr), PTs (X.blk s H scope (compEnvC scope cl C X.env) fp) ifs1 (fun σ H Q => ∃ c, tT X.K X.mg c W0 ts1 σ H Q) := fun s H C cl fp => ⟨fun pins s' σ H' Q I ⟨c, q⟩ => (ht1 c s H C cl fp).run pins s' σ H' Q I q⟩
  have hk' : ∀ (s : Shared) (H : Hp) (C : Addr) (cl : List (Str × Addr)) (fp : List Addr), PE (X.blk s H scope (compEnvC scope cl C X.env) fp) kx (fun σ H Q => ∃ c, tE X.K X.mg c W0 fk σ H Q) := fun s H C cl fp => ⟨fun pins s' σ H' Q I ⟨c, q⟩ => (hk c s H C cl fp).run pins s' σ H' Q I q⟩
  have he' : ∀ (s : Shared) (H : Hp) (C : Addr) (cl : List (Str × Addr)) (fp : List Addr), PE (X.blk s H scope (compEnvC scope cl C X.env) fp) vx (fun σ H Q => ∃ c, tE X.K X.mg c W0 fv σ H Q) := fun s H C cl fp => ⟨fun pins s' σ H' Q I ⟨c, q⟩ => (he c s H C cl fp).run pins s' σ H' Q I q⟩
  refine (Qz.pe_dc2 hc hN hi ok hv hg' ht' hi1' hg1' ht1' hk' he' hs hs1).impQ fun σ H Q ⟨W, o, e, m, M, h⟩ => ⟨W, o, e, m, M, (Post.bind (Rp := RpW X.K X.mg) h).mono fun J H1 ⟨W1, o1, e1, m1, ds, u1, M1, wk, h1⟩ => ?_⟩
  obtain ⟨⟨w1, w2⟩, wl⟩ := (show WalkD X.K X.mg W1 ds J ∧ ds.length ≤ sizeLine from wk)
  split at h1
  case isFalse => exact h1.elim
  rename_i hw
  generalize own.map (·.2) = vs at hT hv hw h1 ⊢
  intro D hD
  obtain ⟨l, ef, mf, hl⟩ : ∃ l ef mf, runDc2 t vs ts f1 t1 vs1 ts1 fk fv ds ([], []) e1 m1 = .ok l ef mf := by
    cases q : runDc2 t vs ts f1 t1 vs1 ts1 fk fv ds ([], []) e1 m1 with
    | ok l e m => exact ⟨l, e, m, rfl⟩
    | ex n ns vs e m => rw [q] at h1; exact h1.elim
    | no => rw [q] at h1; exact h1.elim
  rw [hl] at h1
  simp only [R.bindN_ok] at h1
  split at h1
  case isFalse => exact h1.elim
  rename_i hll
  have nI := M1.newIn hD
  refine ⟨fun i n H => i + n = ds.length ∧ ∃ W2 o2 e2 m2 ks us kvs, Up W1 W2 ∧ Mt X.K X.mg (cD c D (.dK kvs)) W2 o2 (wipe σ vs) H (clw vs e2) m2 ∧ KeysD ks kvs ∧ Reps X.K X.mg W2 us (kvs.map (·.2)) ∧ runDc2 t vs ts f1 t1 vs1 ts1 fk fv (ds.drop i) (ks, us) e2 m2 = .ok l ef mf,
    ⟨ds.length, by omega, W1, o1, e1, m1, [], [], [], Up.refl W1, (M1.toD hD).wiped vs, ⟨rfl, by simp, Nat.zero_le _⟩, rfl, hl⟩, fun i n H ⟨hn, W2, o2, e2, m2, ks, us, kvs, u2, M2, hks, ra, hr⟩ => ?_⟩
  have hs2 : ∀ a o, W1.P a = some o → H a = some o := fun a o z => M2.sub a o (u2.P a o z)
  by_cases hi : i < ds.length
  · obtain ⟨d, hd, ed⟩ := drop_cons hi
    obtain ⟨g1, g2⟩ := w1 i d H hs2 hd
    rw [ed] at hr
    refine .inr ⟨g1, fun H' => ∃ W2 o2 e2 m2 ks us kvs, Up W1 W2 ∧ Mt X.K X.mg (cD c D (.dK kvs)) W2 o2 (wipe σ vs) H' (clw vs e2) m2 ∧ KeysD ks kvs ∧ Reps X.K X.mg W2 us (kvs.map (·.2)) ∧ runDc2 t vs ts f1 t1 vs1 ts1 fk fv (ds.drop (i + 1)) (ks, us) e2 m2 = .ok l ef mf,
      fun H' k => ⟨n - 1, by omega, by omega, k⟩, fun x H' y => ?_⟩
    obtain ⟨W3, u3, M3, r3⟩ := M2.yld u2 (g2 x H' y)
    unfold runDc2 at hr
    split at hr
    · cases hr
    rename_i e3 he3
    obtain ⟨b, e4, m4, hb, hr⟩ := R.bindN_is hr
    refine ⟨_, W3, o2, _, m2, d, M3, r3, e3, he3, fun o' σ' off M4 => ?_⟩
    have hwp : wipe σ' vs = wipe σ vs := (off.wipe hT).trans (wipe_wipe fun _ z => z)
    refine ⟨hwp, cD c D (.dK kvs), W3, o', e3, m2, M4, ?_⟩
    rw [hb]
    intro W5 o5 H5 k u5 M5 ek
    have ek : b = k := ek
    subst ek
    cases b with
    | false =>
      simp only [Bool.false_eq_true, if_false] at hr ⊢
      exact ⟨W5, o5, e4, m4, ks, us, kvs, u2.trans (u3.trans u5), hwp ▸ M5.wiped vs, hks, ra.up (u3.trans u5), hr⟩
    | true =>
      simp only [if_true] at hr ⊢
      obtain ⟨ds1, e6, m6, hy, hr⟩ := R.bindN_is hr
      obtain ⟨p7, e7, m7, h7, hr⟩ := R.bindN_is hr
      refine ⟨cD c D (.dK kvs), W5, o5, e4, m4, M5, ?_⟩
      rw [hy]
      intro W6 o6 H6 J1 u6 M6 wk1
      obtain ⟨⟨v1, v2⟩, vl⟩ := (show WalkD X.K X.mg W6 ds1 J1 ∧ ds1.length ≤ sizeLine from wk1)
      have hu16 : Up W1 W6 := u2.trans (u3.trans (u5.trans u6))
      refine ⟨fun j n H => j + n = ds1.length ∧ ∃ W2 o2 e2 m2 ks us kvs, Up W6 W2 ∧ Mt X.K X.mg (cD c D (.dK kvs)) W2 o2 (wipe σ' vs1) H (clw vs1 e2) m2 ∧ KeysD ks kvs ∧ Reps X.K X.mg W2 us (kvs.map (·.2)) ∧ runDc t1 vs1 ts1 fk fv (ds1.drop j) (ks, us) e2 m2 = .ok p7 e7 m7,
        ⟨ds1.length, by omega, W6, o6, e6, m6, ks, us, kvs, Up.refl W6, M6.wiped vs1, hks, ra.up (u3.trans (u5.trans u6)), h7⟩, fun j n H ⟨hn, W7, o7, e2', m2', ks', us', kvs', u7, M7, hks', ra', hr'⟩ => ?_⟩
      have hs7 : ∀ a o, W6.P a = some o → H a = some o := fun a o z => M7.sub a o (u7.P a o z)
      by_cases hj : j < ds1.length
      · obtain ⟨d1, hd1, ed1⟩ := drop_cons hj
        obtain ⟨k1, k2⟩ := v1 j d1 H hs7 hd1
        rw [ed1] at hr'
        refine .inr ⟨k1, fun H' => ∃ W2 o2 e2 m2 ks us kvs, Up W6 W2 ∧ Mt X.K X.mg (cD c D (.dK kvs)) W2 o2 (wipe σ' vs1) H' (clw vs1 e2) m2 ∧ KeysD ks kvs ∧ Reps X.K X.mg W2 us (kvs.map (·.2)) ∧ runDc t1 vs1 ts1 fk fv (ds1.drop (j + 1)) (ks, us) e2 m2 = .ok p7 e7 m7,
          fun H' k => ⟨n - 1, by omega, by omega, k⟩, fun x1 H' y1 => ?_⟩
        obtain ⟨W8, u8, M8, r8⟩ := M7.yld u7 (k2 x1 H' y1)
        unfold runDc at hr'
        split at hr'
        · cases hr'
        rename_i e9 he9
        obtain ⟨b1, e10, m10, hb1, hr'⟩ := R.bindN_is hr'
        refine ⟨_, W8, o7, _, m2', d1, M8, r8, e9, he9, fun o'' σ'' off1 M9 => ?_⟩
        have hwp1 : wipe σ'' vs1 = wipe σ' vs1 := (off1.wipe hT1).trans (wipe_wipe fun _ z => z)
        refine ⟨hwp1, cD c D (.dK kvs'), W8, o'', e9, m2', M9, ?_⟩
        rw [hb1]
        intro W10 o10 H10 k u10 M10 ek
        have ek : b1 = k := ek
        subst ek
        cases b1 with
        | false =>
          simp only [Bool.false_eq_true, if_false] at hr' ⊢
          exact ⟨W10, o10, e10, m10, ks', us', kvs', u7.trans (u8.trans u10), hwp1 ▸ M10.wiped vs1, hks', ra'.up (u8.trans u10), hr'⟩
        | true =>
          simp only [if_true] at hr' ⊢
          obtain ⟨kd, e11, m11, hy1, hr'⟩ := R.bindN_is hr'
          obtain ⟨vd, e12, m12, h12, hr'⟩ := R.bindN_is hr'
          split at hr'
          case h_2 => cases hr'
          rename_i q hq
          have hlt : kvs'.length < sizeLine := by
            have h1 := runDc_len hr'
            have h2 := runDc2_len hr
            have h3 := (putDk_len ks' q).1
            have h4 := hks'.len
            show _ < 16777216
            simp only at h1
            omega
          refine ⟨cD c D (.dK kvs'), W10, o10, e10, m10, M10, ?_⟩
          rw [hy1]
          intro W11 o11 H11 kv u11 M11 r11
          refine ⟨cD c D (.dK kvs'), W11, o11, e11, m11, M11, ?_⟩
          rw [h12]
          intro W12 o12 H12 vv u12 M12 r12
          have pr := putD_rep (q := q) hks' (ra'.up (u8.trans (u10.trans (u11.trans u12)))) r12 (rep_okKey hq r11) hlt
          exact ⟨kvs', q, rep_key hq r11, M12.D_H nI, hlt, W12, o12, e12, m12, _, _, putK kvs' q vv, u7.trans (u8.trans (u10.trans (u11.trans u12))), hwp1 ▸ (M12.pokeD nI).wiped vs1, pr.1, pr.2, hr'⟩
      · refine .inl ⟨v2 j H hs7 (by omega), ?_⟩
        rw [List.drop_of_length_le (by omega)] at hr'
        cases hr'
        have M12 := M7.wiped vs
        rw [wipe_wipe hv, hwp] at M12
        refine ⟨W7, o7, _, _, ks', us', kvs', hu16.trans u7, ?_, hks', ra', hr⟩
        refine M12.swap (by rw [clw_len, wipe_length]; have := M7.len; rw [clw_len, wipe_length] at this; rw [this]; exact off.1.trans (wipe_length σ vs)) fun i s q => ?_
        obtain ⟨q1, q2⟩ := clw_some q
        refine .inl ⟨?_, rfl⟩
        rw [clw_out q2, clw_out fun z => q2 (hv i z)]
        exact q1
  · refine .inl ⟨w2 i H hs2 (by omega), ?_⟩
    rw [List.drop_of_length_le (by omega)] at hr
    cases hr
    have hDP := M2.D_P nI
    exact h1 _ o2 H (.ref D) (u2.trans (up_put hDP)) ((M1.rested hw u2 M2).keepD nI) (rep_dic hDP hks ra)
end
end Qd
end
section
set_option Elab.async false
set_option linter.all false
set_option autoImplicit false
set_option maxRecDepth 100000

/-! Objects of a name's own: made, changed; stores; a list that is returned and shared. -/
namespace Qd
open PySem PySem.Spec PyProof.Rows L2

section
variable {X : Cx} {c : C0} {Wx : WX} {a b : Expr} {fa fb : FE} {pos : Pos} {x : Str} {i : Nat}
/-! ### new lists -/
def vLst (f : FA) : FV := fun e m => (f e m).bind fun l e m => if l.length ≤ 16777216 then .ok (.ol l) e m else .no
theorem PostV.newL {K : PySem.W.Frag} {mg : Str → Option Value} {W : Wd} {o : Nat → Option Addr} {σ : L2.St} {H : Hp} {Q : VK} {e : Env} {m : MS} {l : List D} {vs : List V} {p : Addr} (h : PostV K mg c W σ Q Wx (.ok (.ol l) e m)) (M : Mt K mg c W o σ H e m) (hp : H p = none) (hl : l.length ≤ sizeLine) (r : Reps K mg W l vs) : Q (.ref p) (upd H p (.lst vs)) :=
  h W o _ p vs (Up.refl W) (M.toD hp) (M.newIn hp) hl r
theorem ev_lst {xs : List Expr} {f : FA} (h : EA X c Wx xs f) : EV X c Wx (.List xs pos) (vLst f) :=
  (pe_lst h).impQ fun σ H Q ⟨W, o, e, m, M, h⟩ => ⟨W, o, e, m, M, (PostV.bind (Rp := Reps X.K X.mg) h).mono fun vs H1 ⟨W1, o1, e1, m1, l, u1, M1, r1, h1⟩ => by
    split at h1
    · rename_i hl
      exact ⟨by rw [← r1.len]; exact hl, fun p hp => PostV.newL h1 M1 hp hl r1⟩
    · exact h1.elim⟩
def lstV : List D → Env → MS → R Sl := fun ds e m => match ds with
  | [.lst l] => .ok (.ol l) e m
  | [.tup l] => .ok (.ol l) e m
  | [.scr l] => .ok (.ol (l.map .int)) e m
  | _ => .no
def vList (f : FA) : FV := fun e m => (f e m).bind lstV
theorem ev_list {p : Pos} {x1 : Expr} {xs : List Expr} {f : FA} (hgl : Gl X "list") (hm : X.mg "list" = none) (ha : EA X c Wx (x1 :: xs) f) (he : starEach (x1 :: xs) X.env = (false, eval x1 X.env) :: starEach xs X.env := by rfl) (hpl : (backTo pos (starEach xs X.env)).any (·.1) = false := by rfl) :
    EV X c Wx (.Call (.Name "list" p) (x1 :: xs) [] pos) (vList f) :=
  (pe_callTy call_list_of hgl hm (by decide +kernel) ha (by decide) (by decide) he hpl).impQ fun σ H Q ⟨W, o, e, m, M, h⟩ => ⟨W, o, e, m, M, (PostV.bind (Rp := Reps X.K X.mg) h).mono fun vs H1 ⟨W1, o1, e1, m1, ds, u1, M1, r1, h1⟩ => by
    unfold lstV at h1
    split at h1
    · obtain ⟨v, rfl, p, ys, rfl, hp, hz, r⟩ := r1.one_inv
      exact ⟨p, ys, rfl, .inl (SqL.of (M1.sub _ _ hp)), fun q hq => PostV.newL h1 M1 hq hz r⟩
    · obtain ⟨v, rfl, p, ys, rfl, hp, hz, r⟩ := r1.one_inv
      exact ⟨p, ys, rfl, .inr (SqT.of (M1.sub _ _ hp)), fun q hq => PostV.newL h1 M1 hq hz r⟩
    · obtain ⟨v, rfl, p, rfl, hp, hz⟩ := r1.one_inv
      exact ⟨p, _, rfl, .inl (sql_up M1.sub hp), fun q hq => PostV.newL h1 M1 hq (by rw [List.length_map]; exact hz) (reps_ints _)⟩
    · exact h1.elim⟩
def vDict0 : FV := fun e m => .ok (.od [] []) e m
theorem ev_dict0 : EV X c Wx (.Dict [] [] pos) vDict0 :=
  pe_dnewK.impQ fun σ H Q ⟨W, o, e, m, M, h⟩ => fun p hp => h W o _ p [] (Up.refl W) (M.toD hp) (M.newIn hp) ⟨rfl, by simp, Nat.zero_le _⟩ rfl

/-! ### x, y = value, value -/
def notOi : Sl → Bool
  | .oi _ _ _ => false
  | _ => true
def sPar (i j : Nat) (f g : FV) : FS := fun e m => (f e m).thn fun s e m => if notOi s then (g e m).thn fun t e m => if notOi t then .nx ((e.set i (some s)).set j (some t)) m else .no else .no
theorem set_flip {α : Type} (l : List α) {i j : Nat} (h : i ≠ j) (x y : α) : (l.set j y).set i x = (l.set i x).set j y := List.set_comm _ _ (Ne.symm h)
theorem PostV.exOf {K : PySem.W.Frag} {mg : Str → Option Value} {W : Wd} {σ : L2.St} {p : Addr} {u : HO} {n : Str} {ns : List Str} {vs : List D} {e : Env} {m : MS} (nI : NewIn c p)
    (h : ∀ (W' : Wd) (o' : Nat → Option Addr) (σ' : L2.St) (H' : Hp) (C : Addr) (dd : Option Addr), Up W W' → Mt K mg c W' o' σ' H' e m → mg n = some (.ref C) → ExRep K mg W' ns vs dd → Wx (.ref C) dd σ' H') (Q : VK) :
    PostV K mg (cD c p u) W σ Q Wx (.ex n ns vs e m) := fun W' o' H' C dd u' M q1 q2 => h W' o' σ H' C dd u' (M.ofD nI) q1 q2
theorem ss_par {j : Nat} {y : Str} {px py pt : Pos} {kt k2 : Nat} {pt2 : Pos} {f g : FV} (hc : X.calm = true) (hN : X.N.Nodup) (hi : X.N[i]? = some x) (hj : X.N[j]? = some y) (hij : i ≠ j)
    (hx : X.env.scope.names.lookup x = some .local) (hy : X.env.scope.names.lookup y = some .local) (ha : EV X c Wx a f) (hb : ∀ c, EV X c Wx b g)
    (hw : swappedStores [.Tuple [.Name x px, .Name y py] kt pt] (.Tuple [a, b] k2 pt2) X.env = pure (some [x, y]))
    (h1 : starEach [a, b] X.env = (false, eval a X.env) :: starEach [b] X.env := by rfl) (h2 : starEach [b] X.env = (false, eval b X.env) :: starEach [] X.env := by rfl)
    (hs : swapsWithSole [.Tuple [.Name x px, .Name y py] kt pt] (.Tuple [a, b] k2 pt2) pos.line X.env = pure false := by rfl) :
    SS X c Wx (.Assign [.Tuple [.Name x px, .Name y py] kt pt] (.Tuple [a, b] k2 pt2) pos) (sPar i j f g) := by
  have hb' : PE X b (fun σ H Q => ∃ c, tV X.K X.mg c Wx g σ H Q) := ⟨fun pins s' σ H' Q I ⟨c, q⟩ => (hb c).run pins s' σ H' Q I q⟩
  refine (ps_par hc hN hi hj hij hx hy (pa_cons ha (pa_cons hb' pa_nil h2) h1) hw hs).impQ fun Dn σ H ⟨W, o, e, m, M, h⟩ => ⟨W, o, e, m, M, ?_⟩
  unfold sPar at h
  cases q : f e m with
  | no => rw [q] at h; exact h.elim
  | ex n ns ds e1 m1 => rw [q] at h; exact fun W' o' H' C dd u' M q1 q2 => h W' o' σ H' C dd u' M q1 q2
  | ok s e1 m1 =>
    rw [q] at h
    simp only [R.thn_ok] at h
    cases s with
    | oi n ns ds => exact h.elim
    | fz d =>
      intro W1 o1 H1 v u1 M1 r1
      refine ⟨c, W1, o1, e1, m1, M1, ?_⟩
      have h := PostS.up u1 h
      cases q2 : g e1 m1 with
      | no => rw [q2] at h; exact h.elim
      | ex n ns ds e2 m2 => rw [q2] at h; exact fun W' o' H' C dd u' M q1 q2 => h W' o' σ H' C dd u' M q1 q2
      | ok t e2 m2 =>
        rw [q2] at h
        cases t with
        | oi n ns ds => exact h.elim
        | fz d2 => exact fun W2 o2 H2 v2 u2 M2 r2 => ⟨v, v2, rfl, h W2 _ _ H2 u2 ((M2.setF (r1.up u2)).setF r2)⟩
        | ol l => exact fun W2 o2 H2 p vs u2 M2 n2 z r2 => ⟨v, _, rfl, h W2 _ _ H2 u2 ((M2.setF (r1.up u2)).ownD n2 ⟨p, vs, by unfold setO; rw [if_pos rfl], rfl, M2.D_H n2, z, r2⟩)⟩
        | od ks ds => exact fun W2 o2 H2 p vs u2 M2 n2 z r2 => ⟨v, _, rfl, h W2 _ _ H2 u2 ((M2.setF (r1.up u2)).ownD n2 ⟨p, vs, by unfold setO; rw [if_pos rfl], rfl, M2.D_H n2, z, r2⟩)⟩
    | ol l0 =>
      intro W1 o1 H1 p0 vs0 u1 M1 n1 z1 r1
      refine ⟨_, W1, o1, e1, m1, M1, ?_⟩
      have h := PostS.up u1 h
      cases q2 : g e1 m1 with
      | no => rw [q2] at h; exact h.elim
      | ex n ns ds e2 m2 => rw [q2] at h; exact PostV.exOf n1 h _
      | ok t e2 m2 =>
        rw [q2] at h
        have fin : ∀ {W2 o2 σ2 H2 e3 m3}, Up W1 W2 → Mt X.K X.mg (cD c p0 (.lst vs0)) W2 o2 σ2 H2 e3 m3 → SlRep X.K X.mg W2 (setO o2 i p0) H2 i (.ol l0) (some (.ref p0)) := fun u2 M2 => ⟨p0, vs0, by unfold setO; rw [if_pos rfl], rfl, M2.D_H n1, z1, r1.up u2⟩
        cases t with
        | oi n ns ds => exact h.elim
        | fz d2 => exact fun W2 o2 H2 v2 u2 M2 r2 => ⟨_, v2, rfl, by
            have M3 := M2.setF (i := j) r2
            have M4 := M3.ownD n1 (fin u2 M3)
            rw [set_flip _ hij, set_flip _ hij] at M4
            exact h W2 _ _ H2 u2 M4⟩
        | ol l => exact fun W2 o2 H2 p vs u2 M2 n2 z r2 => ⟨_, _, rfl, by
            have M3 := M2.ownD (i := j) n2 (s := .ol l) ⟨p, vs, by unfold setO; rw [if_pos rfl], rfl, M2.D_H n2, z, r2⟩
            have M4 := M3.ownD n1 (fin u2 M3)
            rw [set_flip _ hij, set_flip _ hij] at M4
            exact h W2 _ _ H2 u2 M4⟩
        | od ks ds => exact fun W2 o2 H2 p vs u2 M2 n2 z r2 => ⟨_, _, rfl, by
            have M3 := M2.ownD (i := j) n2 (s := .od ks ds) ⟨p, vs, by unfold setO; rw [if_pos rfl], rfl, M2.D_H n2, z, r2⟩
            have M4 := M3.ownD n1 (fin u2 M3)
            rw [set_flip _ hij, set_flip _ hij] at M4
            exact h W2 _ _ H2 u2 M4⟩
    | od ks0 ds0 =>
      intro W1 o1 H1 p0 vs0 u1 M1 n1 z1 r1
      refine ⟨_, W1, o1, e1, m1, M1, ?_⟩
      have h := PostS.up u1 h
      cases q2 : g e1 m1 with
      | no => rw [q2] at h; exact h.elim
      | ex n ns ds e2 m2 => rw [q2] at h; exact PostV.exOf n1 h _
      | ok t e2 m2 =>
        rw [q2] at h
        have fin : ∀ {W2 o2 σ2 H2 e3 m3}, Up W1 W2 → Mt X.K X.mg (cD c p0 (.dK vs0)) W2 o2 σ2 H2 e3 m3 → SlRep X.K X.mg W2 (setO o2 i p0) H2 i (.od ks0 ds0) (some (.ref p0)) := fun u2 M2 => ⟨p0, vs0, by unfold setO; rw [if_pos rfl], rfl, M2.D_H n1, z1, r1.up u2⟩
        cases t with
        | oi n ns ds => exact h.elim
        | fz d2 => exact fun W2 o2 H2 v2 u2 M2 r2 => ⟨_, v2, rfl, by
            have M3 := M2.setF (i := j) r2
            have M4 := M3.ownD n1 (fin u2 M3)
            rw [set_flip _ hij, set_flip _ hij] at M4
            exact h W2 _ _ H2 u2 M4⟩
        | ol l => exact fun W2 o2 H2 p vs u2 M2 n2 z r2 => ⟨_, _, rfl, by
            have M3 := M2.ownD (i := j) n2 (s := .ol l) ⟨p, vs, by unfold setO; rw [if_pos rfl], rfl, M2.D_H n2, z, r2⟩
            have M4 := M3.ownD n1 (fin u2 M3)
            rw [set_flip _ hij, set_flip _ hij] at M4
            exact h W2 _ _ H2 u2 M4⟩
        | od ks ds => exact fun W2 o2 H2 p vs u2 M2 n2 z r2 => ⟨_, _, rfl, by
            have M3 := M2.ownD (i := j) n2 (s := .od ks ds) ⟨p, vs, by unfold setO; rw [if_pos rfl], rfl, M2.D_H n2, z, r2⟩
            have M4 := M3.ownD n1 (fin u2 M3)
            rw [set_flip _ hij, set_flip _ hij] at M4
            exact h W2 _ _ H2 u2 M4⟩
end
end Qd
end
section
set_option Elab.async false
set_option linter.all false
set_option autoImplicit false
set_option maxRecDepth 100000

/-! Methods of a name's own list; stores into shared and own lists; a list that is returned and shared. -/
namespace Qd
open PySem PySem.Spec PyProof.Rows L2

section
variable {X : Cx} {c : C0} {Wx : WX} {a b : Expr} {fa fb : FE} {pos : Pos} {x : Str} {i : Nat}
theorem ownL_at {e : Env} {l : List D} (h : ownL i e = some l) : e[i]? = some (some (.ol l)) := by
  unfold ownL at h
  split at h
  · rename_i l' hl
    cases h
    exact hl
  · cases h
/-- the name's list, asked for before and behind the arguments -/
def onL (i : Nat) (f : FA) (g : List D → List D → Env → MS → R D) : FE := fun e m => match ownL i e with
  | some _ => (f e m).bind fun ds e m => match ownL i e with
    | some l => g l ds e m
    | none => .no
  | none => .no
theorem own_bm {id : String} {nm : Str} {r : V → List V → Hp → VK → Prop} {g : List D → List D → Env → MS → R D} {p1 apos cpos : Pos} {es : List Expr} {f : FA} {ex : Expr} (slot : Slot "list" nm id) (hty : typeOf (.builtin id) = pure (.type "method_descriptor")) (hm : MtR X id r)
    (hN : X.N[i]? = some x) (hv : Vis X.env.scope x) (ha : EA X c Wx (ex :: es) f)
    (hg : ∀ (W : Wd) (o : Nat → Option Addr) (σ : L2.St) (H : Hp) (e : Env) (m : MS) (l ds : List D) (vs us : List V) (p : Addr) (Q : VK), Mt X.K X.mg c W o σ H e m → o i = some p → σ[i]? = some (some (.ref p)) → e[i]? = some (some (.ol l)) → H p = some (.lst vs) → l.length ≤ sizeLine → Reps X.K X.mg W l vs → Reps X.K X.mg W ds us →
      Post X.K X.mg c W σ (Rep X.K X.mg) Q Wx (g l ds e m) → r (.ref p) us H Q)
    (hd : (x == ("__debug__" : Str)) = false := by decide) (hcd : (x == ("__classdict__" : Str)) = false := by decide)
    (hbase : attributeBase (.Name x p1) nm X.env (eval (.Name x p1) X.env) = eval (.Name x p1) X.env := by rfl)
    (hfew : ((backTo cpos (starEach (ex :: es) X.env)).all (fun x => !x.1) && (backToKw cpos (keywordEach [] X.env)).all (fun x => x.1.isSome)
      && decide ((ex :: es).length + ([] : List Keyword).length + (if ([] : List Keyword).isEmpty then 0 else 1) < 30)) = true := by rfl)
    (hline : (apos.endLine == cpos.line) = true := by rfl) (hs : starEach (ex :: es) X.env = (false, eval ex X.env) :: starEach es X.env := by rfl) (hplain : (backTo cpos (starEach es X.env)).any (·.1) = false := by rfl) :
    EE X c Wx (.Call (.Attribute (.Name x p1) nm apos) (ex :: es) [] cpos) (onL i f g) :=
  (pe_bm PySem.F.plainAttrs_list slot hty hm (pe_var hN hv hd hcd) ha hbase hfew hline hs hplain).impQ fun σ H Q ⟨W, o, e, m, M, h⟩ => by
    unfold onL at h
    split at h
    case h_2 => exact h.elim
    rename_i l0 hl0
    obtain ⟨y, hy, p, vs, ho, rfl, hp, hz, r⟩ := M.env i _ (ownL_at hl0)
    refine ⟨.ref p, hy, .inl ⟨rfl, vs, SqL.of hp⟩, W, o, e, m, M, (Post.bind (Rp := Reps X.K X.mg) h).mono fun us H1 ⟨W1, o1, e1, m1, ds, u1, M1, r1, h1⟩ => ?_⟩
    split at h1
    case h_2 => exact h1.elim
    rename_i l hl
    obtain ⟨y2, hy2, p2, vs2, ho2, rfl, hp2, hz2, r2⟩ := M1.env i _ (ownL_at hl)
    rw [hy] at hy2
    cases hy2
    exact hg W1 o1 σ H1 e1 m1 l ds vs2 us p Q M1 ho2 hy (ownL_at hl) hp2 hz2 r2 r1 h1
/-- the own list turned -/
theorem Mt.turnL {K : PySem.W.Frag} {mg : Str → Option Value} {W : Wd} {o : Nat → Option Addr} {σ : L2.St} {H : Hp} {e : Env} {m : MS} {p : Addr} {l l' : List D} {vs : List V} (M : Mt K mg c W o σ H e m) (ho : o i = some p) (he : e[i]? = some (some (.ol l))) (hz : l'.length ≤ sizeLine) (r : Reps K mg W l' vs) :
    Mt K mg c W o σ (upd H p (.lst vs)) (e.set i (some (.ol l'))) m :=
  M.turn ho he fun y hy ⟨p', vs', ho', e', _⟩ => by
    rw [ho] at ho'
    cases ho'
    exact ⟨p, vs, ho, e', upd_same, hz, r⟩
def apG (i : Nat) : List D → List D → Env → MS → R D := fun l ds e m => match ds with
  | [d] => if l.length < 16777216 then .ok .non (e.set i (some (.ol (l ++ [d])))) m else .no
  | _ => .no
theorem ee_apN {p1 apos cpos : Pos} {ex : Expr} {f : FA} (hN : X.N[i]? = some x) (hv : Vis X.env.scope x) (ha : EA X c Wx [ex] f)
    (hd : (x == ("__debug__" : Str)) = false := by decide) (hcd : (x == ("__classdict__" : Str)) = false := by decide)
    (hbase : attributeBase (.Name x p1) "append" X.env (eval (.Name x p1) X.env) = eval (.Name x p1) X.env := by rfl)
    (hfew : ((backTo cpos (starEach [ex] X.env)).all (fun x => !x.1) && (backToKw cpos (keywordEach [] X.env)).all (fun x => x.1.isSome)
      && decide ([ex].length + ([] : List Keyword).length + (if ([] : List Keyword).isEmpty then 0 else 1) < 30)) = true := by rfl)
    (hline : (apos.endLine == cpos.line) = true := by rfl) (hs : starEach [ex] X.env = (false, eval ex X.env) :: starEach [] X.env := by rfl) (hplain : (backTo cpos (starEach [] X.env)).any (·.1) = false := by rfl) :
    EE X c Wx (.Call (.Attribute (.Name x p1) "append" apos) [ex] [] cpos) (onL i f (apG i)) :=
  own_bm (r := rAppend) PySem.F.slot_list_append PySem.F.type_list_append mt_append hN hv ha (fun W o σ H e m l ds vs us p Q M ho hσ he hp hz r r1 h => by
    unfold apG at h
    split at h
    · rename_i d
      split at h
      · rename_i hl
        obtain ⟨v, rfl, rv⟩ := r1.one_inv
        refine ⟨p, vs, v, rfl, rfl, hp, by rw [← r.len]; exact hl, h W o _ .non (Up.refl W) (M.turnL ho he ?_ (r.append (Reps.one rv))) rfl⟩
        rw [List.length_append]
        exact hl
      · exact h.elim
    · exact h.elim) hd hcd hbase hfew hline hs hplain
def popG (i : Nat) : List D → List D → Env → MS → R D := fun l ds e m => match ds with
  | [.int k] => match seqIndex? k l.length with
    | some j => match l[j]? with
      | some d => if -(2 ^ 63) ≤ k ∧ k < 2 ^ 63 then .ok d (e.set i (some (.ol (l.eraseIdx j)))) m else .no
      | none => .no
    | none => .no
  | _ => .no
theorem ee_popN {p1 apos cpos : Pos} {ex : Expr} {f : FA} (hN : X.N[i]? = some x) (hv : Vis X.env.scope x) (ha : EA X c Wx [ex] f)
    (hd : (x == ("__debug__" : Str)) = false := by decide) (hcd : (x == ("__classdict__" : Str)) = false := by decide)
    (hbase : attributeBase (.Name x p1) "pop" X.env (eval (.Name x p1) X.env) = eval (.Name x p1) X.env := by rfl)
    (hfew : ((backTo cpos (starEach [ex] X.env)).all (fun x => !x.1) && (backToKw cpos (keywordEach [] X.env)).all (fun x => x.1.isSome)
      && decide ([ex].length + ([] : List Keyword).length + (if ([] : List Keyword).isEmpty then 0 else 1) < 30)) = true := by rfl)
    (hline : (apos.endLine == cpos.line) = true := by rfl) (hs : starEach [ex] X.env = (false, eval ex X.env) :: starEach [] X.env := by rfl) (hplain : (backTo cpos (starEach [] X.env)).any (·.1) = false := by rfl) :
    EE X c Wx (.Call (.Attribute (.Name x p1) "pop" apos) [ex] [] cpos) (onL i f (popG i)) :=
  own_bm (r := rPopAt) PySem.F.slot_list_pop PySem.F.type_list_pop mt_popAt hN hv ha (fun W o σ H e m l ds vs us p Q M ho hσ he hp hz r r1 h => by
    unfold popG at h
    split at h
    · rename_i k
      split at h
      · rename_i j hj
        split at h
        · rename_i d hdj
          split at h
          · rename_i hk
            obtain ⟨v, rfl, rv⟩ := r1.one_inv
            cases rv
            obtain ⟨w, hw, rw'⟩ := r.get hdj
            refine ⟨p, vs, k, j, w, rfl, rfl, hp, hk.1, hk.2, by rw [← r.len]; exact hj, hw, h W o _ w (Up.refl W) (M.turnL ho he ?_ (r.erase j)) rw'⟩
            exact Nat.le_trans (List.length_eraseIdx_le ..) hz
          · exact h.elim
        · exact h.elim
      · exact h.elim
    · exact h.elim) hd hcd hbase hfew hline hs hplain

/-! ### stores -/
abbrev FH := D → Env → MS → R Unit
abbrev FHs := List D → Env → MS → R Unit
def PostH (K : PySem.W.Frag) (mg : Str → Option Value) (c : C0) (W : Wd) (Q : L2.St → Hp → Prop) : R Unit → Prop
  | .ok _ e m => ∀ (W' : Wd) (o' : Nat → Option Addr) (σ' : L2.St) (H' : Hp), Up W W' → Mt K mg c W' o' σ' H' e m → Q σ' H'
  | _ => False
def tH (K : PySem.W.Frag) (mg : Str → Option Value) (c : C0) (f : FH) : TG := fun v σ H Q => ∃ W o e m d, Mt K mg c W o σ H e m ∧ Rep K mg W d v ∧ PostH K mg c W Q (f d e m)
def tHs (K : PySem.W.Frag) (mg : Str → Option Value) (c : C0) (f : FHs) : TGs := fun vs σ H Q => ∃ W o e m ds, Mt K mg c W o σ H e m ∧ Reps K mg W ds vs ∧ PostH K mg c W Q (f ds e m)
abbrev EH (X : Cx) (c : C0) (tg : Expr) (f : FH) : Prop := PG X tg (tH X.K X.mg c f)
abbrev EHs (X : Cx) (c : C0) (tgs : List Expr) (f : FHs) : Prop := PGs X tgs (tHs X.K X.mg c f)
theorem PostH.up {K : PySem.W.Frag} {mg : Str → Option Value} {W W1 : Wd} {Q : L2.St → Hp → Prop} {r : R Unit} (u : Up W W1) (h : PostH K mg c W Q r) : PostH K mg c W1 Q r := by
  cases r with
  | ok a e m => exact fun W' o' σ' H' u' M => h W' o' σ' H' (u.trans u') M
  | ex n ns ds e m => exact h
  | no => exact h
def hN_ (i : Nat) : FH := fun d e m => .ok () (e.set i (some (.fz d))) m
theorem eh_name (hN : X.N.Nodup) (hi : X.N[i]? = some x) (hx : Loc X.env.scope x) (hf : X.fn x = true ∨ X.env.scope.names.lookup x = some .local := by first | exact .inl rfl | exact .inr rfl | assumption) : EH X c (.Name x pos) (hN_ i) :=
  (pg_name hN hi hx hf).impQ fun v σ H Q ⟨W, o, e, m, d, M, r, h⟩ => h W _ _ H (Up.refl W) (M.setF r)
def hsNil : FHs := fun ds e m => match ds with
  | [] => .ok () e m
  | _ => .no
def hsCons (f : FH) (g : FHs) : FHs := fun ds e m => match ds with
  | d :: r => (f d e m).bindN fun _ e m => g r e m
  | [] => .no
def hT (n : Nat) (g : FHs) : FH := fun d e m => match d with
  | .tup l => if l.length = n then g l e m else .no
  | _ => .no
theorem ehs_nil : EHs X c [] hsNil := pgs_nil.impQ fun v σ H Q ⟨W, o, e, m, ds, M, r, h⟩ => by
  cases ds with
  | nil => exact ⟨r, h W o σ H (Up.refl W) M⟩
  | cons d ds => exact h.elim
theorem ehs_cons {t : Expr} {ts : List Expr} {f : FH} {g : FHs} (h1 : EH X c t f) (h2 : EHs X c ts g) (hs : (assignEach (t :: ts) X.env).map (·.2) = assign t X.env :: (assignEach ts X.env).map (·.2) := by rfl) : EHs X c (t :: ts) (hsCons f g) :=
  (pgs_cons h1 h2 hs).impQ fun vs σ H Q ⟨W, o, e, m, ds, M, r, h⟩ => by
    cases ds with
    | nil => exact h.elim
    | cons d ds =>
      obtain ⟨v, vr, rfl, r1, r2⟩ := r
      refine ⟨v, vr, rfl, W, o, e, m, d, M, r1, ?_⟩
      unfold hsCons at h
      simp only at h
      cases q : f d e m with
      | ok a e1 m1 =>
        rw [q] at h
        exact fun W' o' σ' H' u M' => ⟨W', o', e1, m1, ds, M', r2.up u, PostH.up u h⟩
      | ex n ns ds e1 m1 => rw [q] at h; exact h.elim
      | no => rw [q] at h; exact h.elim
theorem eh_tup {ts : List Expr} {kk n : Nat} {g : FHs} (hc : X.calm = true) (h : EHs X c ts g) (hn : (assignEach ts X.env).length = n := by rfl) (hst : (assignEach ts X.env).findIdx? (·.1) = none := by rfl) : EH X c (.Tuple ts kk pos) (hT n g) :=
  (pg_tup hc h hn hst).impQ fun v σ H Q ⟨W, o, e, m, d, M, r, h⟩ => by
    unfold hT at h
    cases d with
    | tup l =>
      simp only at h
      split at h
      · rename_i hl
        obtain ⟨p, vs, rfl, hp, hzr, r⟩ := r
        exact ⟨p, vs, rfl, SqT.of (M.sub _ _ hp), by rw [← r.len]; exact hl, W, o, e, m, l, M, r, h⟩
      · exact h.elim
    | _ => exact h.elim
/-- shared[k] = d -/
def hObj (fa fb : FE) : FH := fun d e m => (fa e m).bindN fun x e m => (fb e m).bindN fun y e m => match x with
  | .obj j => match y with
    | .int k => match m[j]? with
      | some (.lst l) => match ixN l.length k with
        | some n => .ok () e (m.set j (.lst (l.set n d)))
        | none => .no
      | _ => .no
    | _ => .no
  | _ => .no
theorem Mt.mlst {K : PySem.W.Frag} {mg : Str → Option Value} {W : Wd} {o : Nat → Option Addr} {σ : L2.St} {H : Hp} {e : Env} {m : MS} {j : Nat} {l : List D} {p : Addr} (M : Mt K mg c W o σ H e m) (hm : m[j]? = some (.lst l)) (hr : W.r[j]? = some p) : ∃ vs, H p = some (.lst vs) ∧ Reps K mg W l vs := M.ms.2 j _ p hm hr
theorem eh_obj (ha : EE X c (fun _ _ _ _ => False) a fa) (hb : EE X c (fun _ _ _ _ => False) b fb)
    (hasg : ∀ v, assign (.Subscript a b pos) X.env v = (do
      let ov ← holding [v] (eval a X.env)
      let iv ← holding [v, ov] (eval b X.env)
      standAt pos
      holding [v, ov, iv] (setItem ov iv v)
      release [v, ov, iv] []) := by intro _; rfl) : EH X c (.Subscript a b pos) (hObj fa fb) :=
  (pg_sub ha hb set_list hasg).impQ fun v σ H Q ⟨W, o, e, m, d, M, r, h⟩ => by
    unfold hObj at h
    cases q : fa e m with
    | no => rw [q] at h; exact h.elim
    | ex n ns ds e1 m1 => rw [q] at h; exact h.elim
    | ok x1 e1 m1 =>
      rw [q] at h
      simp only [R.bindN_ok] at h
      refine ⟨W, o, e, m, M, ?_⟩
      rw [q]
      intro W1 o1 H1 v1 u1 M1 r1
      cases q2 : fb e1 m1 with
      | no => rw [q2] at h; exact h.elim
      | ex n ns ds e1 m1 => rw [q2] at h; exact h.elim
      | ok y1 e2 m2 =>
        rw [q2] at h
        simp only [R.bindN_ok] at h
        refine ⟨W1, o1, e1, m1, M1, ?_⟩
        rw [q2]
        intro W2 o2 H2 v2 u2 M2 r2
        cases x1 with
        | obj j =>
          cases y1 with
          | int k =>
            simp only at h
            split at h
            · rename_i l hl
              split at h
              · rename_i n hn
                obtain ⟨p, rfl, hp⟩ := r1
                cases r2
                have hp2 : W2.r[j]? = some p := by
                  obtain ⟨t, ht⟩ := u2.r
                  rw [← ht, List.getElem?_append_left (List.getElem?_eq_some_iff.mp hp).1]
                  exact hp
                obtain ⟨vs, hH, rl⟩ := M2.mlst hl hp2
                refine ⟨p, vs, k, n, rfl, rfl, hH, by rw [← rl.len]; exact hn, ?_⟩
                exact h W2 o2 σ _ (u1.trans u2) (M2.mset hp2 ⟨_, upd_same, rl.set (r.up (u1.trans u2)) n⟩)
              · exact h.elim
            · exact h.elim
          | _ => exact h.elim
        | _ => exact h.elim
def sAsg (f : FE) (g : FH) : FS := fun e m => (f e m).thn fun d e m => match g d e m with
  | .ok _ e m => .nx e m
  | _ => .no
theorem ss_asg {tg e : Expr} {f : FE} {g : FH} (he : EE X c Wx e f) (hg : EH X c tg g) (hs : swapsWithSole [tg] e pos.line X.env = pure false := by rfl) (hw : swappedStores [tg] e X.env = pure none := by rfl)
    (h1 : (assignEach [tg] X.env).map (·.2) = [assign tg X.env] := by rfl) : SS X c Wx (.Assign [tg] e pos) (sAsg f g) :=
  (ps_asg he hg hs hw h1).impQ fun Dn σ H ⟨W, o, e, m, M, h⟩ => ⟨W, o, e, m, M, (PostS.thn (Rp := Rep X.K X.mg) h).mono fun v H1 ⟨W1, o1, e1, m1, d, u1, M1, r1, h1⟩ => ⟨W1, o1, e1, m1, d, M1, r1, by
    cases q : g d e1 m1 with
    | ok a e2 m2 => rw [q] at h1; exact h1
    | ex n ns ds e2 m2 => rw [q] at h1; exact h1.elim
    | no => rw [q] at h1; exact h1.elim⟩⟩

/-! ### return [..], shared from here on -/
def sRetO (f : FA) : FS := fun e m => (f e m).thn fun l e m => if l.length ≤ 16777216 then .rt (.obj m.length) e (m ++ [.lst l]) else .no
theorem Mt.newObj {K : PySem.W.Frag} {mg : Str → Option Value} {W : Wd} {o : Nat → Option Addr} {σ : L2.St} {H : Hp} {e : Env} {m : MS} {p : Addr} {u : HO} {mo : MO} (M : Mt K mg c W o σ H e m) (hp : H p = none) (h : MRep K mg W (upd H p u) p mo) :
    Mt K mg c ⟨W.P, W.r ++ [p], W.me⟩ o σ (upd H p u) e (m ++ [mo]) := by
  have J := M.junk u hp
  have up : Up W ⟨W.P, W.r ++ [p], W.me⟩ := ⟨fun _ _ h => h, List.prefix_append _ _, rfl⟩
  refine ⟨J.sub, J.p0, J.gP, J.r0.trans up.r, fun a q => ?_, J.fr, ?_, fun a q => ?_, fun i a q => ?_, J.inj, J.len, fun i s q => ?_, by rw [List.length_append, List.length_append, M.ms.1]; rfl, fun j mo' a h1 h2 => ?_⟩
  · rcases List.mem_append.mp q with q | q
    · exact J.gr a q
    · simp at q
      subst q
      exact .inr (M.new0 hp)
  · rw [List.nodup_append]
    exact ⟨M.rnd, by simp, fun a ha b hb => by simp at hb; subst hb; intro e; subst e; exact M.ne_r hp ha⟩
  · rcases List.mem_append.mp q with q | q
    · exact J.rP a q
    · simp at q
      subst q
      exact ⟨M.newP hp, by rw [upd_same]; simp⟩
  · obtain ⟨h1, h2, h3, h4⟩ := J.own i a q
    refine ⟨h1, fun z => ?_, h3, h4⟩
    rcases List.mem_append.mp z with z | z
    · exact h2 z
    · simp at z
      subst z
      exact M.ne_o hp i q
  · obtain ⟨x, h1, h2⟩ := J.env i s q
    exact ⟨x, h1, h2.up up fun _ _ _ => rfl⟩
  · by_cases z : j < m.length
    · rw [List.getElem?_append_left z] at h1
      rw [List.getElem?_append_left (by rw [← M.ms.1]; exact z)] at h2
      exact (J.ms.2 j mo' a h1 h2).up up fun _ => rfl
    · rw [List.getElem?_append_right (by omega)] at h1
      rw [List.getElem?_append_right (by rw [← M.ms.1]; omega)] at h2
      rw [← M.ms.1] at h2
      have hj : j - m.length = 0 := by
        have := (List.getElem?_eq_some_iff.mp h1).1
        simp at this
        omega
      rw [hj] at h1 h2
      cases h1
      cases h2
      exact h.up up fun _ => rfl
theorem ss_retO {xs : List Expr} {p2 : Pos} {f : FA} (h : EA X c Wx xs f) : SS X c Wx (.Return (some (.List xs p2)) pos) (sRetO f) :=
  (ps_ret (pe_lst h)).impQ fun Dn σ H ⟨W, o, e, m, M, h⟩ => ⟨W, o, e, m, M, (PostS.thn (Rp := Reps X.K X.mg) h).mono fun vs H1 ⟨W1, o1, e1, m1, l, u1, M1, r1, h1⟩ => by
    split at h1
    · rename_i hl
      refine ⟨by rw [← r1.len]; exact hl, fun p hp => ?_⟩
      refine h1 ⟨W1.P, W1.r ++ [p], W1.me⟩ o1 σ _ (.ref p) ⟨fun _ _ h => h, List.prefix_append _ _, rfl⟩ (M1.newObj hp ⟨vs, upd_same, r1⟩) ⟨p, rfl, ?_⟩
      rw [M1.ms.1, List.getElem?_append_right (Nat.le_refl _), Nat.sub_self]
      rfl
    · exact h1.elim⟩
end
end Qd
end
section
set_option Elab.async false
set_option linter.all false
set_option autoImplicit false
set_option maxRecDepth 100000

/-! What a def promises, by a function; calls. -/
namespace Qd
open PySem PySem.Spec PyProof.Rows L2

section
variable {K : PySem.W.Frag} {mg : Str → Option Value} {c : C0} {W W1 : Wd} {o o1 : Nat → Option Addr} {σ : L2.St} {H H1 : Hp} {e : Env} {m m1 : MS}
def none0 : Nat → Option Addr := fun _ => none
/-- the entry of a callee -/
theorem Mt.entry (M : Mt K mg c W o σ H e m) : Mt K mg ⟨W.P, W.r, H⟩ W none0 [] H [] m where
  sub := M.sub
  p0 := fun _ _ h => h
  gP := fun _ h => .inl h
  r0 := List.prefix_rfl
  gr := fun _ h => .inl h
  fr := fun _ _ h _ => h
  rnd := M.rnd
  rP := M.rP
  own := fun _ _ h => by cases h
  inj := fun _ _ _ h => by cases h
  len := rfl
  env := fun i s h => by simp at h
  ms := M.ms
/-- the slots forgotten -/
theorem Mt.bare (M : Mt K mg c W o σ H e m) : Mt K mg c W none0 [] H [] m :=
  { M with own := fun _ _ h => by cases h
           inj := fun _ _ _ h => by cases h
           len := rfl
           env := fun i s h => by simp at h }
/-- behind a call -/
theorem Mt.back (M : Mt K mg c W o σ H e m) (u : Up W W1) (N : Mt K mg ⟨W.P, W.r, H⟩ W1 o1 [] H1 [] m1) : Mt K mg c W1 o σ H1 e m1 where
  sub := N.sub
  p0 := fun a x h => u.P a x (M.p0 a x h)
  gP := fun a h => by
    rcases N.gP a h with q | q
    · exact M.gP a q
    · exact .inr (M.new0 q)
  r0 := M.r0.trans u.r
  gr := fun a h => by
    rcases N.gr a h with q | q
    · exact M.gr a q
    · exact .inr (M.new0 q)
  fr := fun a x h n => N.fr a x (M.fr a x h n) fun z => by
    rcases M.gr a z with q | q
    · exact n q
    · rw [q] at h
      cases h
  rnd := N.rnd
  rP := N.rP
  own := fun i a h => by
    obtain ⟨h1, h2, h3, h4⟩ := M.own i a h
    refine ⟨?_, fun z => ?_, h3, ?_⟩
    · cases q : W1.P a with
      | none => rfl
      | some x =>
        rcases N.gP a (by rw [q]; simp) with z | z
        · exact absurd h1 z
        · exact absurd z h4
    · rcases N.gr a z with y | y
      · exact h2 y
      · exact h4 y
    · cases q : H a with
      | none => exact absurd q h4
      | some x =>
        rw [N.fr a x q h2]
        simp
  inj := M.inj
  len := M.len
  env := fun i s h => by
    obtain ⟨x, h1, h2⟩ := M.env i s h
    refine ⟨x, h1, h2.up u fun a ha hn => ?_⟩
    cases q : H a with
    | none => exact absurd q hn
    | some x => exact N.fr a x q (M.own i a ha).2.1
  ms := N.ms
end
/-- the slots of a result -/
def R.atE {α : Type} (r : R α) (e : Env) : R α := match r with
  | .ok a _ m => .ok a e m
  | .ex n ns vs _ m => .ex n ns vs e m
  | .no => .no
@[simp] theorem R.atE_ok {α : Type} (a : α) (e e' : Env) (m : MS) : (R.ok a e m).atE e' = .ok a e' m := rfl
@[simp] theorem R.atE_no {α : Type} (e' : Env) : (R.no : R α).atE e' = .no := rfl
@[simp] theorem R.atE_ex {α : Type} (n : Str) (ns : List Str) (vs : List D) (e e' : Env) (m : MS) : (R.ex n ns vs e m : R α).atE e' = .ex n ns vs e' m := rfl
abbrev FF := List D → MS → R D
/-- the promise of a def -/
def spD (K : PySem.W.Frag) (mg : Str → Option Value) (f : FF) : Sp := fun vs H Q E => ∃ W m ds, Mt K mg ⟨W.P, W.r, H⟩ W none0 [] H [] m ∧ Reps K mg W ds vs ∧ Post K mg ⟨W.P, W.r, H⟩ W [] (Rep K mg) Q (fun cls d _ H => E cls d H) ((f ds m).atE [])
/-- what may leave -/
def PX (X : Cx) (Wx : WX) (E : XK) : Prop := Passes (L2.CX X.prog X.w) X E ∧ ∀ cls d σ H, Wx cls d σ H → E cls d H
section
variable {K : PySem.W.Frag} {mg : Str → Option Value} {c : C0} {W : Wd} {o : Nat → Option Addr} {σ : L2.St} {H : Hp} {e : Env} {m : MS} {Wx : WX} {E : XK}
theorem spD_of {f : FF} {ds : List D} {vs : List V} {Q : VK} (M : Mt K mg c W o σ H e m) (r : Reps K mg W ds vs) (hE : ∀ cls d H, Wx cls d σ H → E cls d H) (h : Post K mg c W σ (Rep K mg) Q Wx ((f ds m).atE e)) : spD K mg f vs H Q E := by
  refine ⟨W, m, ds, M.entry, r, ?_⟩
  cases q : f ds m with
  | ok d e1 m1 =>
    rw [q] at h
    exact fun W' o' H' v u N r' => h W' o H' v u (M.back u N) r'
  | ex n ns vs e1 m1 =>
    rw [q] at h
    exact fun W' o' H' C dd u N h1 h2 => hE _ _ _ (h W' o H' C dd u (M.back u N) h1 h2)
  | no =>
    rw [q] at h
    exact h.elim
end
/-- a def's body as a function -/
def defF (n N : Nat) (fs : FS) : FF := fun ds m => if ds.length = n then
    match fs (ds.map (fun d => some (.fz d)) ++ List.replicate (N - n) none) m with
    | .rt d _ m => .ok d [] m
    | .nx _ m => .ok .non [] m
    | .ex nm ns vs _ m => .ex nm ns vs [] m
    | _ => .no
  else .no
section
variable {P : Program} {w : World} {K : PySem.W.Frag} {mg : Str → Option Value} {base : Heap}
theorem Mt.args {W : Wd} {H : Hp} {m : MS} {ds : List D} {vs : List V} {k : Nat} {c : C0} (M : Mt K mg c W none0 [] H [] m) (r : Reps K mg W ds vs) :
    Mt K mg c W none0 (vs.map some ++ List.replicate k none) H (ds.map (fun d => some (.fz d)) ++ List.replicate k none) m :=
  { M with
    len := by
      have := r.len
      simp [this]
    env := fun i s h => by
      by_cases hi : i < ds.length
      · rw [List.getElem?_append_left (by rw [List.length_map]; exact hi), List.getElem?_map] at h
        obtain ⟨d, hd, h⟩ := Option.map_eq_some_iff.mp h
        cases h
        obtain ⟨v, hv, rv⟩ := r.get hd
        refine ⟨some v, ?_, v, rfl, rv⟩
        rw [List.getElem?_append_left (by rw [List.length_map, ← r.len]; exact hi), List.getElem?_map, hv]
        rfl
      · rw [List.getElem?_append_right (by rw [List.length_map]; omega), List.getElem?_replicate] at h
        split at h <;> cases h }
theorem start_is {N : List Str} {vs : List V} {n : Nat} (h : vs.length = n) : L2.start N vs = vs.map some ++ List.replicate (N.length - n) none := by
  unfold L2.start
  rw [h]
/-- the body's end is the promise's -/
theorem defF_post {W : Wd} {H : Hp} {m : MS} {ds : List D} {n N : Nat} {fs : FS} {Q : VK} {E : XK} (h : Post K mg ⟨W.P, W.r, H⟩ W [] (Rep K mg) Q (fun cls d _ H => E cls d H) ((defF n N fs ds m).atE [])) :
    ds.length = n ∧ PostS K mg ⟨W.P, W.r, H⟩ W { nx := fun _ H' => Q .non H', rt := Q } (fun cls d _ H => E cls d H) (fs (ds.map (fun d => some (.fz d)) ++ List.replicate (N - n) none) m) := by
  unfold defF at h
  split at h
  case isFalse => exact h.elim
  rename_i hl
  refine ⟨hl, ?_⟩
  cases q : fs (ds.map (fun d => some (.fz d)) ++ List.replicate (N - n) none) m with
  | rt d e m1 =>
    rw [q] at h
    exact fun W' o' σ' H' v u N r => h W' none0 H' v u N.bare r
  | nx e m1 =>
    rw [q] at h
    exact fun W' o' σ' H' u N => h W' none0 H' .non u N.bare rfl
  | bk e m1 => rw [q] at h; exact h.elim
  | ct e m1 => rw [q] at h; exact h.elim
  | ex nm ns vs e m1 =>
    rw [q] at h
    exact fun W' o' σ' H' C dd u N h1 h2 => h W' none0 H' C dd u N.bare h1 h2
  | no => rw [q] at h; exact h.elim
theorem fn_def {x qual : Str} {st : Stmt} {g : Addr} {fd : FuncData} {N ps : List Str} {k : Nat} {fs : FS} (F : Fun K x qual st g fd) (S : FnScope N ps (defScope st))
    (hbody : ∀ (c : C0) (cdv : Value) (A : Around) (outer : List PySem.Env) (s : Shared) (H : Hp) (E : XK), Room k (A.deeper (envOfC qual (defScope st) s.heap.objs.size g cdv)) →
      SSs (cxOf (L2.CX P w) P w K mg base N qual (defScope st) g cdv A outer s H E) c (fun cls d _ H => E cls d H) (defBody st) fs) :
    FnOk P w K mg base (L2.CX P w) (k + 1) g fd ps (spD K mg (defF ps.length N.length fs)) := by
  refine F.okX S (fun vs H Q E h => ?_) fun cdv A outer s H vs Q E hr h => ?_
  · obtain ⟨W, m, ds, M, r, h⟩ := h
    rw [← r.len]
    exact (defF_post h).1
  · obtain ⟨W, m, ds, M, r, h⟩ := h
    obtain ⟨hl, h⟩ := defF_post h
    refine ⟨_, hbody ⟨W.P, W.r, H⟩ cdv A outer s H E hr, W, none0, _, m, ?_, h⟩
    rw [start_is (n := ps.length) (by rw [← r.len]; exact hl)]
    exact M.args r
/-- a def by its promise, called with values -/
def FD (P : Program) (w : World) (K : PySem.W.Frag) (mg : Str → Option Value) (base : Heap) (k : Nat) (g : Addr) (f : FF) : Prop := FnR P w K mg base (L2.CX P w) k g (spD K mg f)
theorem FD.of {g : Addr} {fd : FuncData} {ps : List Str} {k : Nat} {f : FF} (F : FnOk P w K mg base (L2.CX P w) k g fd ps (spD K mg f)) (hb : Binds K fd ps []) : FD P w K mg base k g f :=
  (F.raw hb .nil).imp fun vs H Q E h => by rw [List.append_nil]; exact h
/-- a def with *rest -/
def starF (n N : Nat) (fs : FS) : FF := fun ds m => if n ≤ ds.length ∧ (ds.drop n).length ≤ 16777216 then defF (n + 1) N fs (ds.take n ++ [.tup (ds.drop n)]) m else .no
theorem Reps.split {W : Wd} : ∀ {ds : List D} {vs : List V} (n : Nat), Reps K mg W ds vs → ∃ a b, vs = a ++ b ∧ Reps K mg W (ds.take n) a ∧ Reps K mg W (ds.drop n) b
  | ds, vs, n, h => ⟨vs.take n, vs.drop n, (List.take_append_drop n vs).symm, h.take n, h.drop n⟩
theorem fn_star {x qual : Str} {st : Stmt} {g : Addr} {fd : FuncData} {N ps : List Str} {pv : Str} {k : Nat} {fs : FS} (F : Fun K x qual st g fd) (S : FnScope N (ps ++ [pv]) (defScope st))
    (hb : ∀ (kV doc pm : Value) (an : Option Addr) (cdv ct : Value) (us rest : List Value), us.length = ps.length → bindArgs (PySem.W.fnOf x qual (defArgs st) (defBody st) (defScope st) .none kV doc pm an cdv ct) ⟨us ++ rest, []⟩ = (newTuple rest >>= fun t => pure (ps.zip us ++ [(pv, t)])))
    (hbody : ∀ (c : C0) (cdv : Value) (A : Around) (outer : List PySem.Env) (s : Shared) (H : Hp) (E : XK), Room k (A.deeper (envOfC qual (defScope st) s.heap.objs.size g cdv)) →
      SSs (cxOf (L2.CX P w) P w K mg base N qual (defScope st) g cdv A outer s H E) c (fun cls d _ H => E cls d H) (defBody st) fs) :
    FD P w K mg base (k + 1) g (starF ps.length N.length fs) := by
  obtain ⟨oc, od, kV, doc, pm, an, cdv, ct, osl, rfl, lk, hcd⟩ := F.ex
  refine (StX.fn_star (k := k) (sp := spD K mg (defF (ps.length + 1) N.length fs)) lk hcd S StX.cxUp (fun us rest h => hb kV doc pm an cdv ct us rest h) fun A outer s H vs Q E hr h => ?_).imp fun vs H Q E h => ?_
  · obtain ⟨W, m, ds, M, r, h⟩ := h
    obtain ⟨hl, h⟩ := defF_post h
    refine ⟨_, hbody ⟨W.P, W.r, H⟩ cdv A outer s H E hr, W, none0, _, m, ?_, h⟩
    rw [start_is (n := ps.length + 1) (by rw [← r.len]; exact hl)]
    exact M.args r
  · obtain ⟨W, m, ds, M, r, h⟩ := h
    unfold starF at h
    split at h
    case isFalse => exact h.elim
    rename_i hn
    obtain ⟨a, b, rfl, ra, rb⟩ := Reps.split ps.length r
    refine ⟨a, b, rfl, ?_, ?_, fun p hp => ?_⟩
    · rw [← ra.len, List.length_take]
      omega
    · rw [← rb.len]
      exact hn.2
    · have u := up_put (u := HO.tup b) (M.newP hp)
      refine spD_of (Wx := fun cls d _ H => E cls d H) (M.lay (.tup b) hp) ((ra.up u).append (Reps.one (rep_tup (M.newP hp) hn.2 rb))) (fun cls d H z => z) (Post.up u ?_)
      exact h
/-! ### __init__ -/
/-- what makes an instance: the fields' names and values -/
abbrev FI := List D → MS → R (List Str × List D)
def spI (K : PySem.W.Frag) (mg : Str → Option Value) (cn : Str) (f : FI) : Sp := fun vs H Q E => ∃ W m ds ws x dx C H1, vs = .ref x :: ws ∧ mg cn = some (.ref C) ∧ H1 x = none ∧ H1 dx = none ∧ dx ≠ x ∧ H = upd (upd H1 dx (.own x)) x (.ins C dx []) ∧
  Mt K mg ⟨W.P, W.r, H1⟩ W none0 [] H1 [] m ∧ Reps K mg W ds ws ∧ Post K mg ⟨W.P, W.r, H1⟩ W [] (fun W' (p : List Str × List D) v => Rep K mg W' (.ins cn p.1 p.2) v) (fun v H' => v = .ref x → Q .non H') (fun cls d _ H => E cls d H) ((f ds m).atE [])
def insOf (cn : Str) (e : Env) (m : MS) : R (List Str × List D) := match e[0]? with
  | some (some (Sl.oi c ns vs)) => if c = cn then .ok (ns, vs) [] m else .no
  | _ => .no
def initF (cn : Str) (n N : Nat) (fs : FS) : FI := fun ds m => if ds.length + 1 = n then
    match fs (some (.oi cn [] []) :: (ds.map (fun d => some (.fz d)) ++ List.replicate (N - n) none)) m with
    | .rt .non e m => insOf cn e m
    | .nx e m => insOf cn e m
    | .ex nm ns vs _ m => .ex nm ns vs [] m
    | _ => .no
  else .no
theorem Rep.reme {W : Wd} {d : D} {v : V} (x : Addr) (h : Rep K mg W d v) : Rep K mg ⟨W.P, W.r, x⟩ d v := Rep.up' (W := W) (W' := ⟨W.P, W.r, x⟩) (fun _ _ h => h) List.prefix_rfl h
theorem Reps.reme {W : Wd} {d : List D} {v : List V} (x : Addr) (h : Reps K mg W d v) : Reps K mg ⟨W.P, W.r, x⟩ d v := Reps.up' (W := W) (W' := ⟨W.P, W.r, x⟩) (fun _ _ h => h) List.prefix_rfl h
/-- another instance in the making -/
theorem Mt.reme {W : Wd} {H : Hp} {m : MS} {c : C0} (M : Mt K mg c W none0 [] H [] m) (x : Addr) : Mt K mg c ⟨W.P, W.r, x⟩ none0 [] H [] m :=
  { M with
    env := fun i s h => by simp at h
    ms := ⟨M.ms.1, fun j mo a h1 h2 => by
      have := M.ms.2 j mo a h1 h2
      cases mo with
      | lst l =>
        obtain ⟨vs, h1, h2⟩ := this
        exact ⟨vs, h1, Reps.reme _ h2⟩
      | ins c ns ds =>
        obtain ⟨C, dx, vs, h1, h2, h3, h4, h5⟩ := this
        exact ⟨C, dx, vs, h1, h2, h3, h4, Reps.reme _ h5⟩⟩ }
def bornW (W : Wd) (x dx : Addr) : Wd := ⟨upd W.P dx (.own x), W.r, x⟩
/-- the new instance as slot 0's own -/
theorem Mt.born {W : Wd} {H : Hp} {m : MS} {ds : List D} {vs : List V} {k : Nat} {c : C0} {x dx C : Addr} {cn : Str} (M : Mt K mg c W none0 [] H [] m) (r : Reps K mg W ds vs) (hC : mg cn = some (.ref C)) (hx : H x = none) (hd : H dx = none) (ne : dx ≠ x) :
    Mt K mg c (bornW W x dx) (fun i => if i = 0 then some x else none) (some (.ref x) :: (vs.map some ++ List.replicate k none)) (upd (upd H dx (.own x)) x (.ins C dx [])) (some (.oi cn [] []) :: (ds.map (fun d => some (.fz d)) ++ List.replicate k none)) m := by
  have M1 : Mt K mg c (bornW W x dx) none0 [] (upd H dx (.own x)) [] m := (M.lay (.own x) hd).reme x
  have hx1 : (upd H dx (.own x)) x = none := by rw [upd_ne (Ne.symm ne)]; exact hx
  have M2 := M1.junk (.ins C dx []) hx1
  have M3 := M2.args (k := k) (Reps.up' (W' := bornW W x dx) (up_put (u := .own x) (M.newP hd)).P List.prefix_rfl r)
  refine { M3 with own := fun i a h => ?_, inj := fun i j a h1 h2 => ?_, len := by rw [List.length_cons, List.length_cons, M3.len], env := fun i s h => ?_ }
  · have h : (if i = 0 then some x else none) = some a := h
    split at h
    · cases h
      exact ⟨M1.newP hx1, M1.ne_r hx1, M1.new0 hx1, by rw [upd_same]; simp⟩
    · cases h
  · have h1 : (if i = 0 then some x else none) = some a := h1
    have h2 : (if j = 0 then some x else none) = some a := h2
    split at h1
    · rename_i z1
      split at h2
      · rename_i z2
        rw [z1, z2]
      · cases h2
    · cases h1
  · cases i with
    | zero =>
      have h : some (Sl.oi cn [] []) = some s := by simpa using h
      cases h
      exact ⟨some (.ref x), rfl, x, C, dx, [], rfl, ⟨rfl, rfl⟩, hC, upd_same, upd_same, rfl, rfl⟩
    | succ i =>
      have h : (ds.map (fun d => some (Sl.fz d)) ++ List.replicate k none)[i]? = some (some s) := by simpa using h
      obtain ⟨y, h1, h2⟩ := M3.env i s h
      refine ⟨y, by simpa using h1, ?_⟩
      cases s with
      | fz d => exact h2
      | ol l =>
        obtain ⟨a, vs, z, _⟩ := h2
        cases z
      | od ks ds =>
        obtain ⟨a, vs, z, _⟩ := h2
        cases z
      | oi n ns ds =>
        obtain ⟨a, C, dx, vs, z, _⟩ := h2
        cases z
/-- the instance is data -/
theorem Mt.settle {c : C0} {W W0 : Wd} {o : Nat → Option Addr} {σ : L2.St} {H : Hp} {e : Env} {m : MS} {cn : Str} {p : List Str × List D} {x dx : Addr} (M : Mt K mg c W o σ H e m) (h : insOf cn e m = .ok p [] m) (up : Up (bornW W0 x dx) W) (hd : W0.P dx = none) :
    ∃ W', Up W0 W' ∧ Mt K mg c W' none0 [] H [] m ∧ Rep K mg W' (.ins cn p.1 p.2) (.ref x) := by
  unfold insOf at h
  split at h
  · rename_i c' ns vs he
    split at h
    · rename_i ec
      cases h
      subst ec
      obtain ⟨y, h1, a, C, d', us, ho, ⟨rfl, ha⟩, hC, hH, hO, hl, hr⟩ := M.env 0 _ he
      have ea : a = x := ha.trans up.me
      subst ea
      have oP := (M.own 0 a ho).1
      have u2 := up_put (u := HO.ins C d' (ns.zip us)) oP
      have rep : Rep K mg (W.put a (.ins C d' (ns.zip us))) (.ins c' ns vs) (.ref a) := ⟨a, C, d', us, rfl, hC, upd_same, u2.P _ _ hO, hl, hr.up u2⟩
      have N := (M.freeze ho hH h1 rep).bare.reme W0.me
      have u3 : Up W0 ⟨(W.put a (.ins C d' (ns.zip us))).P, (W.put a (.ins C d' (ns.zip us))).r, W0.me⟩ :=
        ⟨fun b z q => u2.P b z (up.P b z (by
          show (upd W0.P dx (.own a)) b = some z
          rw [upd_ne fun y => by rw [y, hd] at q; cases q]
          exact q)), up.r, rfl⟩
      exact ⟨_, u3, N, Rep.reme _ rep⟩
    · cases h
  · cases h
theorem insOf_is (cn : Str) (e : Env) (m : MS) : insOf cn e m = .no ∨ ∃ p, insOf cn e m = .ok p [] m := by
  unfold insOf
  split
  · split
    · exact .inr ⟨_, rfl⟩
    · exact .inl rfl
  · exact .inl rfl
theorem spI_len {cn : Str} {n N : Nat} {fs : FS} {vs : List V} {H : Hp} {Q : VK} {E : XK} (h : spI K mg cn (initF cn n N fs) vs H Q E) : vs.length = n := by
  obtain ⟨W, m, ds, ws, x, dx, C, H1, rfl, hC, hx, hd, ne, rfl, M, r, h⟩ := h
  unfold initF at h
  split at h
  · rename_i hl
    rw [List.length_cons, ← r.len]
    exact hl
  · exact h.elim
end
section
variable {P : Program} {w : World} {K : PySem.W.Frag} {mg : Str → Option Value} {base : Heap}
theorem fn_init {x qual : Str} {st : Stmt} {g : Addr} {fd : FuncData} {N ps : List Str} {k : Nat} {fs : FS} {cn : Str} (F : Fun K x qual st g fd) (S : FnScope N ps (defScope st)) (hN : ps.length ≤ N.length)
    (hbody : ∀ (c : C0) (cdv : Value) (A : Around) (outer : List PySem.Env) (s : Shared) (H : Hp) (E : XK), Room k (A.deeper (envOfC qual (defScope st) s.heap.objs.size g cdv)) →
      SSs (cxOf (L2.CX P w) P w K mg base N qual (defScope st) g cdv A outer s H E) c (fun cls d _ H => E cls d H) (defBody st) fs) :
    FnOk P w K mg base (L2.CX P w) (k + 1) g fd ps (spI K mg cn (initF cn ps.length N.length fs)) := by
  refine F.okX S (fun vs H Q E h => spI_len h) fun cdv A outer s H vs Q E hr h => ?_
  have hlen := spI_len h
  obtain ⟨W, m, ds, ws, x, dx, C, H1, rfl, hC, hx, hd, ne, rfl, M, r, h⟩ := h
  unfold initF at h
  split at h
  case isFalse => exact h.elim
  rename_i hl
  have B := M.born (k := N.length - ps.length) r hC hx hd ne
  refine ⟨_, hbody ⟨W.P, W.r, H1⟩ cdv A outer s _ E hr, bornW W x dx, _, some (.oi cn [] []) :: (ds.map (fun d => some (.fz d)) ++ List.replicate (N.length - ps.length) none), m, (by rw [start_is hlen]; exact B), ?_⟩
  cases q : fs (some (.oi cn [] []) :: (ds.map (fun d => some (.fz d)) ++ List.replicate (N.length - ps.length) none)) m with
  | nx e m1 =>
    rw [q] at h
    intro W' o' σ' H' u N'
    rcases insOf_is cn e m1 with z | ⟨p, z⟩
    · simp only [z] at h
      exact h.elim
    · simp only [z] at h
      obtain ⟨W2, u2, N2, r2⟩ := N'.settle z u (M.newP hd)
      exact h W2 none0 H' (.ref x) u2 N2 r2 rfl
  | rt d e m1 =>
    rw [q] at h
    intro W' o' σ' H' v u N' rv
    cases d with
    | non =>
      cases rv
      rcases insOf_is cn e m1 with z | ⟨p, z⟩
      · simp only [z] at h
        exact h.elim
      · simp only [z] at h
        obtain ⟨W2, u2, N2, r2⟩ := N'.settle z u (M.newP hd)
        exact h W2 none0 H' (.ref x) u2 N2 r2 rfl
    | _ => exact h.elim
  | bk e m1 => rw [q] at h; exact h.elim
  | ct e m1 => rw [q] at h; exact h.elim
  | ex nm ns vs e m1 =>
    rw [q] at h
    intro W' o' σ' H' C' dd u N' h1 h2
    have u3 : Up W ⟨W'.P, W'.r, W.me⟩ := ⟨fun b z q => u.P b z (by
        show (upd W.P dx (.own x)) b = some z
        rw [upd_ne fun y => by rw [y, M.newP hd] at q; cases q]
        exact q), u.r, rfl⟩
    refine h ⟨W'.P, W'.r, W.me⟩ none0 H' C' dd u3 (N'.bare.reme W.me) h1 ?_
    obtain ⟨us, a1, a2, a3⟩ := h2
    exact ⟨us, Reps.reme _ a1, a2, a3⟩
  | no => rw [q] at h; exact h.elim
end
end Qd
end
section
set_option Elab.async false
set_option linter.all false
set_option autoImplicit false
set_option maxRecDepth 100000

/-! Calls of defs, classes, methods. -/
namespace Qd
open PySem PySem.Spec PyProof.Rows L2

/-- the values of a call in the parameters' order: positional us, then by keywords ws -/
def permL {α : Type} (idx : List Nat) (us ws : List α) : List α := idx.filterMap fun i => (us ++ ws)[i]?
theorem Reps.perm {K : PySem.W.Frag} {mg : Str → Option Value} {W : Wd} {ds es : List D} {vs zs : List V} (h : Reps K mg W ds vs) (k : Reps K mg W es zs) : ∀ idx : List Nat, Reps K mg W (permL idx ds es) (permL idx vs zs)
  | [] => rfl
  | i :: idx => by
    have ih := Reps.perm h k idx
    have al := h.append k
    unfold permL at ih ⊢
    rw [List.filterMap_cons, List.filterMap_cons]
    cases q : (ds ++ es)[i]? with
    | none =>
      have q2 : (vs ++ zs)[i]? = none := by
        rw [List.getElem?_eq_none_iff] at q ⊢
        rw [← al.len]
        exact q
      rw [q2]
      exact ih
    | some d =>
      obtain ⟨v, hv, rv⟩ := al.get q
      rw [hv]
      exact ⟨v, _, rfl, rv, ih⟩
theorem Vals.permV {vs zs : List V} {us ws : List Value} (h : Vals vs us) (k : Vals zs ws) : ∀ idx : List Nat, Vals (permL idx vs zs) (permL idx us ws)
  | [] => .nil
  | i :: idx => by
    have ih := Vals.permV h k idx
    have al := h.append k
    unfold permL at ih ⊢
    rw [List.filterMap_cons, List.filterMap_cons]
    cases q : (vs ++ zs)[i]? with
    | none =>
      have q2 : (us ++ ws)[i]? = none := by
        rw [List.getElem?_eq_none_iff] at q ⊢
        rw [← al.length]
        exact q
      rw [q2]
      exact ih
    | some v =>
      obtain ⟨u, hu, ru⟩ := al.get q
      rw [hu]
      exact .cons ru ih
/-- a promise by positional values and keywords -/
def FnRK (P : Program) (w : World) (K : PySem.W.Frag) (mg : Str → Option Value) (base : Heap) (CX : CXT) (k : Nat) (f : Addr) (n : Nat) (ks : List Str) (idx : List Nat) (sp : Sp) : Prop :=
  ∀ (A : Around) (outer : List PySem.Env) (s : Shared) (H : Hp) (us ws : List Value) (vs zs : List V) (Q : VK) (E : XK), Room k A → Env0 P w K mg base A outer s H → Vals vs us → Vals zs ws → vs.length = n → zs.length = ks.length → sp (permL idx vs zs) H Q E →
    codeAny (model P w) A (.call (.ref f) ⟨us, ks.zip ws⟩) (CR CX outer P w H s Q E) s
section
variable {P : Program} {w : World} {K : PySem.W.Frag} {mg : Str → Option Value} {base : Heap} {CX : CXT}
theorem FnRK.of {k n : Nat} {g : Addr} {fd : FuncData} {ps ks : List Str} {idx : List Nat} {sp : Sp} (F : FnOk P w K mg base CX k g fd ps sp)
    (hb : ∀ us ws : List Value, us.length = n → ws.length = ks.length → bindArgs fd ⟨us, ks.zip ws⟩ = pure (ps.zip (permL idx us ws))) : FnRK P w K mg base CX k g n ks idx sp := by
  intro A outer s H us ws vs zs Q E hr e0 r rz l1 l2 hs
  exact F.run A outer s H ⟨us, ks.zip ws⟩ (permL idx us ws) (permL idx vs zs) Q E hr e0 (.of_eq (hb us ws (r.length.symm.trans l1) (rz.length.symm.trans l2))) (Vals.permV r rz idx) hs
/-- a def with *rest, called with keywords, nothing for the rest -/
theorem fn_starK {x qual : Str} {st : Stmt} {g : Addr} {fd : FuncData} {N ps ks : List Str} {pv : Str} {k n : Nat} {idx : List Nat} {fs : FS} (F : Fun K x qual st g fd) (S : FnScope N (ps ++ [pv]) (defScope st)) (hidx : idx.length = ps.length) (hin : ∀ i ∈ idx, i < n + ks.length)
    (hb : ∀ (kV doc pm : Value) (an : Option Addr) (cdv ct : Value) (us ws : List Value), us.length = n → ws.length = ks.length → bindArgs (PySem.W.fnOf x qual (defArgs st) (defBody st) (defScope st) .none kV doc pm an cdv ct) ⟨us, ks.zip ws⟩ = (newTuple [] >>= fun t => pure (ps.zip (permL idx us ws) ++ [(pv, t)])))
    (hbody : ∀ (c : C0) (cdv : Value) (A : Around) (outer : List PySem.Env) (s : Shared) (H : Hp) (E : XK), Room k (A.deeper (envOfC qual (defScope st) s.heap.objs.size g cdv)) →
      SSs (cxOf (L2.CX P w) P w K mg base N qual (defScope st) g cdv A outer s H E) c (fun cls d _ H => E cls d H) (defBody st) fs) :
    FnRK P w K mg base (L2.CX P w) (k + 1) g n ks idx (spD K mg (starF ps.length N.length fs)) := by
  obtain ⟨oc, od, kV, doc, pm, an, cdv, ct, osl, rfl, lk, hcd⟩ := F.ex
  intro A outer s H us ws vs zs Q E hr e0 r rz l1 l2 hsp
  have rp := Vals.permV r rz idx
  have hn : H s.heap.objs.size = Option.none := e0.hok.fresh (Nat.le_refl _)
  have hlen : (permL idx vs zs).length = ps.length := by
    have z : ∀ (idx : List Nat), (∀ i ∈ idx, i < (vs ++ zs).length) → (permL idx vs zs).length = idx.length := by
      intro idx
      induction idx with
      | nil => intro _; rfl
      | cons i idx ih =>
        intro hi
        have q := hi i (by simp)
        unfold permL at ih ⊢
        rw [List.filterMap_cons, List.getElem?_eq_getElem q]
        simp only [List.length_cons]
        rw [ih fun j hj => hi j (by simp [hj])]
    rw [z idx fun i hi => by rw [List.length_append, l1, l2]; exact hin i hi, hidx]
  obtain ⟨W, m, ds, M, rr, h⟩ := hsp
  unfold starF at h
  split at h
  case isFalse => exact h.elim
  have hdl : ds.length = ps.length := by rw [rr.len, hlen]
  have e1 : ds.take ps.length = ds := List.take_of_length_le (by omega)
  have e2 : ds.drop ps.length = [] := List.drop_of_length_le (by omega)
  rw [e1, e2] at h
  refine StX.run_bnd lk hcd S hr e0 (G := fun xs H2 => ∃ p, H p = Option.none ∧ xs = permL idx vs zs ++ [V.ref p] ∧ H2 = upd H p (.tup [])) (fun A' Ex Q' hh => ?_) fun s2 H2 xs ⟨p, hp, ex, eH⟩ hr' => ?_
  · rw [hb kV doc pm an cdv ct us ws (r.length.symm.trans l1) (rz.length.symm.trans l2)]
    refine wpAny_bind (wpAny_newTuple (wpAny_pure ?_) (by show 0 ≤ sizeLine; decide))
    have new : ObjOk P w (upd H s.heap.objs.size (.tup [])) (s.heap.push ({ cls := .type "tuple", data := .seq ([] : List Value).toArray } : Obj)) s.heap.objs.size (.tup []) := ⟨by show 0 ≤ sizeLine; decide, [], .nil, ⟨_, Heap.get?_push_size _ rfl, rfl, _, rfl⟩⟩
    have un := StX.un_laid (fs := frs outer) (s := s) (o := ({ cls := .type "tuple", data := .seq ([] : List Value).toArray } : Obj)) (u := .tup []) hn
    have z := hh _ _ (permL idx vs zs ++ [V.ref s.heap.objs.size]) (permL idx us ws ++ [Value.ref s.heap.objs.size]) (StX.env0_laid e0 new) un rfl (fun e s' => StX.cxUp outer s H _ _ E e s' un (fun b o q => Heap.get?_push_of_some _ q) rfl) (rp.append (.cons rfl .nil))
      (by rw [List.length_append, List.length_append, hlen] <;> rfl) ⟨_, hn, rfl, rfl⟩
    rw [List.zip_append (by rw [← rp.length, hlen])] at z
    exact z
  · subst ex eH
    have u := up_put (u := HO.tup []) (M.newP hp)
    have sp2 : spD K mg (defF (ps.length + 1) N.length fs) (permL idx vs zs ++ [V.ref p]) (upd H p (.tup [])) Q E :=
      spD_of (Wx := fun cls d _ H => E cls d H) (M.lay (.tup []) hp) ((rr.up u).append (Reps.one (rep_tup (l := []) (M.newP hp) (by show 0 ≤ sizeLine; decide) rfl))) (fun cls d H z => z) (Post.up u h)
    obtain ⟨W2, m2, ds2, M2, r2, h2⟩ := sp2
    obtain ⟨hl, h2⟩ := defF_post h2
    refine ⟨_, hbody ⟨W2.P, W2.r, _⟩ cdv A outer s2 _ E hr', W2, none0, _, m2, ?_, h2⟩
    rw [start_is (n := ps.length + 1) (by rw [← r2.len]; exact hl)]
    exact M2.args r2
end
section
variable {X : Cx} {CX : CXT} {k n : Nat} {g C p : Addr} {sp : Sp} {E : XK} {x m : Str} {pp pos apos : Pos} {e o : Expr} {es : List Expr} {ta : TE} {t tk : TA} {ks : List Str} {idx : List Nat} {kws : List Keyword} {mc : Value}
theorem run_fnRK {pins : List (Addr × Obj)} {σ : L2.St} {H : Hp} {s : Shared} {Q : VK} {us ws : List Value} {vs zs : List V} (F : FnRK X.prog X.w X.K X.mg X.base CX k g n ks idx sp) (hr : Room k X.A) (hx : Passes CX X E) (I : Inv X pins σ H s) (r : Vals vs us) (rz : Vals zs ws) (l1 : vs.length = n) (l2 : zs.length = ks.length) (h : sp (permL idx vs zs) H Q E) :
    codeAny (model X.prog X.w) X.A (.call (.ref g) ⟨us, ks.zip ws⟩) (fun r s' => match r with | .ok (.ret v) => EP X pins σ Q v s' | .ok _ => False | .error e => X.xe e s') s := by
  refine codeAny_mono (F X.A X.stack s H us ws vs zs Q E hr I.env0 r rz l1 l2 h) fun r s' hq => ?_
  cases r with
  | error e => exact hx pins σ H s e s' I hq
  | ok fl =>
    cases fl with
    | ret u => exact I.after hq
    | next => exact False.elim hq
    | brk => exact False.elim hq
    | cont => exact False.elim hq
def tCR (sp : Sp) (E : XK) (t : TA) : TE := fun σ H Q => t σ H fun vs H1 => sp vs H1 Q E
theorem pe_cR (F : FnR X.prog X.w X.K X.mg X.base CX k g sp) (hr : Room k X.A) (hg : Gl X x) (hm : X.mg x = some (.ref g)) (hk : PySem.W.keepIn X.K (.ref g) = true) (hx : Passes CX X E) (ha : PA X (e :: es) t) (hd : (x == ("__debug__" : Str)) = false := by decide)
    (he : starEach (e :: es) X.env = (false, eval e X.env) :: starEach es X.env := by rfl) (hpl : (backTo pos (starEach es X.env)).any (·.1) = false := by rfl) : PE X (.Call (.Name x pp) (e :: es) [] pos) (tCR sp E t) := by
  refine ⟨fun pins s σ H Q I h => wpAny_Call_Name_kw (ld_glob I hg hm ?_ hd)⟩
  exact PySem.W.callWith_K (h₀ := X.base) I.ok.mod.kin hk (thn (ha.run pos pins s σ H _ I h) fun us s1 ⟨vs, H1, I1, r, q⟩ => ⟨I1.kIn, wpAny_call (run_fnR F hr hx I1 r q)⟩) he hpl
theorem pe_cR0 (F : FnR X.prog X.w X.K X.mg X.base CX k g sp) (hr : Room k X.A) (hg : Gl X x) (hm : X.mg x = some (.ref g)) (hk : PySem.W.keepIn X.K (.ref g) = true) (hx : Passes CX X E) (hd : (x == ("__debug__" : Str)) = false := by decide) :
    PE X (.Call (.Name x pp) [] [] pos) (tCR sp E tNil) := by
  refine ⟨fun pins s σ H Q I h => wpAny_Call_Name_kw (ld_glob I hg hm ?_ hd)⟩
  exact PySem.W.callWith_K0 I.kIn hk (wpAny_call (run_fnR F hr hx I .nil h))
def tMR (C : Addr) (m : Str) (sp : Sp) (E : XK) (ta : TE) (t : TA) : TE := fun σ H Q => ta σ H fun x H1 => ∃ a dx fs, x = .ref a ∧ H1 a = some (.ins C dx fs) ∧ fs.lookup m = none ∧ t σ H1 fun vs H2 => sp (x :: vs) H2 Q E
theorem pe_mR {pl : Sem Bool} (he : PE X o ta) (c : Cls X.K C) (hm : Meth X.K C m g) (F : FnR X.prog X.w X.K X.mg X.base CX k g sp) (hr : Room k X.A) (hx : Passes CX X E) (ha : PA X (e :: es) t)
    (hst : starEach (e :: es) X.env = (false, eval e X.env) :: starEach es X.env := by rfl) (hpl : (backTo pos (starEach es X.env)).any (·.1) = false := by rfl)
    (ht : eval (.Call (.Attribute o m apos) (e :: es) [] pos) X.env = (do
      let ov ← eval o X.env
      standAt apos.atName
      let (fx, first) ← holding [ov] (getMethod ov m pl)
      callWith pos fx first (backTo pos (starEach (e :: es) X.env)) (backToKw pos (keywordEach [] X.env))) := by rfl) :
    PE X (.Call (.Attribute o m apos) (e :: es) [] pos) (tMR C m sp E ta t) := by
  refine ⟨fun pins s σ H Q I h => PySem.W.methodCall_KW (pl := pl) (thn (he.run pins s σ H _ I h) fun u s1 ⟨x, H1, I1, rx, a, dx, fs, ex, ea, l, q⟩ => ?_) ht⟩
  subst ex
  obtain rfl : u = Value.ref a := rx
  refine getmeth_ok I1 ea c hm l ?_
  exact PySem.W.callWith_K (first := [.ref a]) (h₀ := X.base) I.ok.mod.kin hm.kp (thn (ha.run pos pins s1 σ H1 _ I1 q) fun us s2 ⟨vs, H2, I2, r, q2⟩ => ⟨I2.kIn, wpAny_call (run_fnR (us := .ref a :: us) (vs := .ref a :: vs) F hr hx I2 (.cons rfl r) q2)⟩) hst hpl
theorem pe_mR0 {pl : Sem Bool} (he : PE X o ta) (c : Cls X.K C) (hm : Meth X.K C m g) (F : FnR X.prog X.w X.K X.mg X.base CX k g sp) (hr : Room k X.A) (hx : Passes CX X E)
    (ht : eval (.Call (.Attribute o m apos) [] [] pos) X.env = (do
      let ov ← eval o X.env
      standAt apos.atName
      let (fx, first) ← holding [ov] (getMethod ov m pl)
      callWith pos fx first (backTo pos (starEach [] X.env)) (backToKw pos (keywordEach [] X.env))) := by rfl) :
    PE X (.Call (.Attribute o m apos) [] [] pos) (tMR C m sp E ta tNil) := by
  refine ⟨fun pins s σ H Q I h => PySem.W.methodCall_KW (pl := pl) (thn (he.run pins s σ H _ I h) fun u s1 ⟨x, H1, I1, rx, a, dx, fs, ex, ea, l, q⟩ => ?_) ht⟩
  subst ex
  obtain rfl : u = Value.ref a := rx
  refine getmeth_ok I1 ea c hm l ?_
  exact PySem.W.callWith_K0 (first := [.ref a]) I1.kIn hm.kp (wpAny_call (run_fnR (us := [.ref a]) (vs := [.ref a]) F hr hx I1 (.cons rfl .nil) q))
/-- o.m(k = v, ..), o an instance -/
def tMRK (C : Addr) (m : Str) (n l : Nat) (idx : List Nat) (sp : Sp) (E : XK) (ta : TE) (t tk : TA) : TE := fun σ H Q => ta σ H fun x H1 => ∃ a dx fs, x = .ref a ∧ H1 a = some (.ins C dx fs) ∧ fs.lookup m = none ∧ t σ H1 fun vs H2 => tk σ H2 fun zs H3 => vs.length = n ∧ zs.length = l ∧ sp (permL idx (x :: vs) zs) H3 Q E
theorem pe_mRK0 {pl : Sem Bool} (he : PE X o ta) (c : Cls X.K C) (hm : Meth X.K C m g) (F : FnRK X.prog X.w X.K X.mg X.base CX k g 1 ks idx sp) (hr : Room k X.A) (hx : Passes CX X E) (hkw : PK X kws tk)
    (hall : (backToKw pos (keywordEach kws X.env)).all (·.1.isSome) = true := by rfl) (hks : (backToKw pos (keywordEach kws X.env)).filterMap (·.1) = ks := by rfl)
    (hpl : ((backTo pos (starEach [] X.env)).any (·.1) || (backToKw pos (keywordEach kws X.env)).any (·.1.isNone)) = false := by rfl)
    (ht : eval (.Call (.Attribute o m apos) [] kws pos) X.env = (do
      let ov ← eval o X.env
      standAt apos.atName
      let (fx, first) ← holding [ov] (getMethod ov m pl)
      callWith pos fx first (backTo pos (starEach [] X.env)) (backToKw pos (keywordEach kws X.env))) := by rfl) :
    PE X (.Call (.Attribute o m apos) [] kws pos) (tMRK C m 0 ks.length idx sp E ta tNil tk) := by
  refine ⟨fun pins s σ H Q I h => PySem.W.methodCall_KW (pl := pl) (thn (he.run pins s σ H _ I h) fun u s1 ⟨x, H1, I1, rx, a, dx, fs, ex, ea, l, q⟩ => ?_) ht⟩
  subst ex
  obtain rfl : u = Value.ref a := rx
  refine getmeth_ok I1 ea c hm l ?_
  refine PySem.W.callWith_KW0 (first := [.ref a]) (h₀ := X.base) I.ok.mod.kin hm.kp hall (thn (hkw.run pos pins s1 σ H1 _ I1 q) fun ws s2 ⟨zs, H2, I2, rz, l1, l2, q2⟩ => ⟨I2.kIn, ?_⟩) hpl
  rw [hks]
  exact wpAny_call (run_fnRK (us := [.ref a]) (vs := [.ref a]) F hr hx I2 (.cons rfl .nil) rz rfl l2 q2)
/-- C.m(k = v, ..), m a classmethod -/
def tCRK (C : Addr) (l : Nat) (idx : List Nat) (sp : Sp) (E : XK) (ta : TE) (tk : TA) : TE := fun σ H Q => ta σ H fun x H1 => x = .ref C ∧ tk σ H1 fun zs H3 => zs.length = l ∧ sp (permL idx [x] zs) H3 Q E
theorem pe_cmethK0 {pl : Sem Bool} (he : PE X o ta) (r : ClX.CRead X.K C mc) (c : ClX.CMet X.K C mc m p g) (F : FnRK X.prog X.w X.K X.mg X.base CX k g 1 ks idx sp) (hr : Room k X.A) (hx : Passes CX X E) (hkw : PK X kws tk)
    (hall : (backToKw pos (keywordEach kws X.env)).all (·.1.isSome) = true := by rfl) (hks : (backToKw pos (keywordEach kws X.env)).filterMap (·.1) = ks := by rfl)
    (hpl : ((backTo pos (starEach [] X.env)).any (·.1) || (backToKw pos (keywordEach kws X.env)).any (·.1.isNone)) = false := by rfl)
    (ht : eval (.Call (.Attribute o m apos) [] kws pos) X.env = (do
      let ov ← eval o X.env
      standAt apos.atName
      let (fx, first) ← holding [ov] (getMethod ov m pl)
      callWith pos fx first (backTo pos (starEach [] X.env)) (backToKw pos (keywordEach kws X.env))) := by rfl) :
    PE X (.Call (.Attribute o m apos) [] kws pos) (tCRK C ks.length idx sp E ta tk) := by
  refine ⟨fun pins s σ H Q I h => PySem.W.methodCall_KW (pl := pl) (thn (he.run pins s σ H _ I h) fun u s1 ⟨x, H1, I1, rx, ex, q⟩ => ?_) ht⟩
  subst ex
  obtain rfl : u = Value.ref C := rx
  refine ClX.getmethcm_ok I1 r c fun s2 I2 => ?_
  have hq := ClX.pin_at I2
  have hz : wpAny (model X.prog X.w) X.A (evalAll ((backToKw pos (keywordEach kws X.env)).map (·.2))) (fun ks' s₂ => PySem.W.MethP X.K s1.heap.objs.size g (.ref C) s₂.heap ∧ wpAny (model X.prog X.w) X.A (call (.ref s1.heap.objs.size) ([] ++ []) (((backToKw pos (keywordEach kws X.env)).filterMap (·.1)).zip ks')) (EP X pins σ Q) X.xe s₂) X.xe s2 := by
    refine thn (hkw.run pos _ s2 σ H1 _ I2 q) fun ws s3 ⟨zs, H3, I3, rz, l2, q2⟩ => ⟨⟨ClX.pin_at I3, I3.kIn⟩, ?_⟩
    rw [hks]
    refine wpAny_call (PySem.W.method_call (ClX.pin_at I3) ?_)
    exact codeAny_mono (run_fnRK (us := [.ref C]) (vs := [.ref C]) F hr hx I3 (.cons rfl .nil) rz rfl l2 q2) fun r s' hq => by
      cases r with
      | error e => exact hq
      | ok fl =>
        cases fl with
        | ret u => exact ClX.unpinE hq
        | next => exact hq
        | brk => exact hq
        | cont => exact hq
  exact PySem.W.callWith_of hpl (PySem.W.keeps_M c.fi) (evalArgs_kw2_nil hall hz)
/-- v(e, ..), v a local name that holds a class -/
def tMakeV (i : Nat) (C : Addr) (sp : Sp) (E : XK) (t : TA) : TE := fun σ H Q => σ[i]? = some (some (.ref C)) ∧ t σ H fun vs H1 => ∀ x dx, H1 x = Option.none → H1 dx = Option.none → dx ≠ x →
  sp (V.ref x :: vs) (upd (upd H1 dx (.own x)) x (.ins C dx [])) (fun v H2 => v = .non ∧ Q (.ref x) H2) E
theorem pe_makeV {i : Nat} (M : Mk X.K C g) (F : FnR X.prog X.w X.K X.mg X.base CX k g sp) (hr : Room (k + 1) X.A) (hx : Passes CX X E) (hN : X.N[i]? = some x) (hv : Vis X.env.scope x) (ha : PA X (e :: es) t)
    (hd : (x == ("__debug__" : Str)) = false := by decide) (hcd : (x == ("__classdict__" : Str)) = false := by decide)
    (he : starEach (e :: es) X.env = (false, eval e X.env) :: starEach es X.env := by rfl) (hpl : (backTo pos (starEach es X.env)).any (·.1) = false := by rfl) : PE X (.Call (.Name x pp) (e :: es) [] pos) (tMakeV i C sp E t) := by
  refine ⟨fun pins s σ H Q I h => ?_⟩
  obtain ⟨hs, h⟩ := h
  refine wpAny_Call_Name_kw (thn ((pe_var (pos := pp) (i := i) hN hv hd hcd).run pins s σ H (fun v H1 => v = .ref C ∧ H1 = H) I ⟨.ref C, hs, rfl, rfl⟩) fun u s1 ⟨v, H1, I1, r1, ev, eH⟩ => ?_)
  subst ev
  rw [eH] at I1
  cases r1
  exact PySem.W.callWith_K (h₀ := X.base) I.ok.mod.kin M.kp (thn (ha.run pos pins s1 σ H _ I1 h) fun us s2 ⟨vs, H2, I2, r, q⟩ => ⟨I2.kIn, StX.run_makeR M F hr hx I2 r q⟩) he hpl
end
end Qd
end
section
set_option Elab.async false
set_option linter.all false
set_option autoImplicit false
set_option maxRecDepth 100000

/-! Calls by functions. -/
namespace Qd
open PySem PySem.Spec PyProof.Rows L2

def xCall (g : FF) (fa : FA) : FE := fun e m => (fa e m).bind fun ds e m => (g ds m).atE e
/-- none of its ends is an exception -/
def R.noX {α : Type} (r : R α) : R α := match r with
  | .ok a e m => .ok a e m
  | _ => .no
@[simp] theorem R.noX_ok {α : Type} (a : α) (e : Env) (m : MS) : (R.ok a e m).noX = .ok a e m := rfl
@[simp] theorem R.noX_no {α : Type} : (R.no : R α).noX = .no := rfl
section
variable {X : Cx} {c : C0} {Wx : WX} {E : XK} {k : Nat} {g C : Addr} {f : FF} {x m cn : Str} {pp pos apos : Pos} {e o : Expr} {es : List Expr} {fa : FA} {fo : FE} {i : Nat} {kws : List Keyword} {fk : FA} {ks : List Str} {idx : List Nat} {n : Nat}
abbrev FDX (X : Cx) (k : Nat) (g : Addr) (f : FF) : Prop := FD X.prog X.w X.K X.mg X.base k g f
theorem ee_call (F : FDX X k g f) (hr : Room k X.A) (hg : Gl X x) (hm : X.mg x = some (.ref g)) (hk : PySem.W.keepIn X.K (.ref g) = true) (hx : PX X Wx E) (ha : EA X c Wx (e :: es) fa) (hd : (x == ("__debug__" : Str)) = false := by decide)
    (he : starEach (e :: es) X.env = (false, eval e X.env) :: starEach es X.env := by rfl) (hpl : (backTo pos (starEach es X.env)).any (·.1) = false := by rfl) : EE X c Wx (.Call (.Name x pp) (e :: es) [] pos) (xCall f fa) :=
  (pe_cR F hr hg hm hk hx.1 ha hd he hpl).impQ fun σ H Q ⟨W, o, e, m, M, h⟩ => ⟨W, o, e, m, M, (Post.bind (Rp := Reps X.K X.mg) h).mono fun vs H1 ⟨W1, o1, e1, m1, ds, u1, M1, r1, h1⟩ => spD_of M1 r1 (fun cls d H => hx.2 cls d σ H) h1⟩
theorem ee_call0 (F : FDX X k g f) (hr : Room k X.A) (hg : Gl X x) (hm : X.mg x = some (.ref g)) (hk : PySem.W.keepIn X.K (.ref g) = true) (hx : PX X Wx E) (hd : (x == ("__debug__" : Str)) = false := by decide) : EE X c Wx (.Call (.Name x pp) [] [] pos) (xCall f aNil) :=
  (pe_cR0 F hr hg hm hk hx.1 hd).impQ fun σ H Q ⟨W, o, e, m, M, h⟩ => spD_of (ds := []) M rfl (fun cls d H => hx.2 cls d σ H) h
/-! ### instances -/
def hasN (l : List Str) (x : Str) : Bool := l.any fun y => x == y
theorem zip_lookup : ∀ {ns : List Str} {vs : List V} {x : Str}, hasN ns x = false → (ns.zip vs).lookup x = none
  | [], vs, x, h => by simp
  | n :: ns, [], x, h => by simp
  | n :: ns, v :: vs, x, h => by
    unfold hasN at h
    simp only [List.any_cons, Bool.or_eq_false_iff] at h
    rw [List.zip_cons_cons, List.lookup_cons, h.1]
    exact zip_lookup (by unfold hasN; exact h.2)
def fldL : List Str → List D → Str → Option D
  | n :: ns, v :: vs, x => if x == n then some v else fldL ns vs x
  | _, _, _ => none
theorem fldL_rep {K : PySem.W.Frag} {mg : Str → Option Value} {W : Wd} : ∀ {ns : List Str} {ds : List D} {vs : List V} {x : Str} {d : D}, Reps K mg W ds vs → fldL ns ds x = some d → ∃ v, (ns.zip vs).lookup x = some v ∧ Rep K mg W d v
  | [], ds, vs, x, d, r, h => by cases ds <;> cases h
  | n :: ns, [], vs, x, d, r, h => by cases h
  | n :: ns, d0 :: ds, vs, x, d, r, h => by
    obtain ⟨v, vr, rfl, r1, r2⟩ := r
    unfold fldL at h
    rw [List.zip_cons_cons, List.lookup_cons]
    split at h
    · rename_i q
      cases h
      exact ⟨v, by rw [q], r1⟩
    · rename_i q
      obtain ⟨w, h1, h2⟩ := fldL_rep r2 h
      exact ⟨w, by rw [Bool.eq_false_iff.mpr q]; exact h1, h2⟩
/-- o.f, a field of the class cn -/
def fldG (cn x : Str) : D → Option D
  | .ins c ns vs => if c = cn then fldL ns vs x else none
  | _ => none
theorem ee_fld (hm : X.mg cn = some (.ref C)) (hC : Cls X.K C) (hn : NoAttr X.K C x) (ho : EE X c Wx o fo) (hb : attributeBase o x X.env (eval o X.env) = eval o X.env := by rfl) : EE X c Wx (.Attribute o x pos) (x1 fo (pur1 (fldG cn x))) :=
  (pe_fld ho hb).impQ fun σ H Q ⟨W, o, e, m, M, h⟩ => ⟨W, o, e, m, M, (Post.bind (Rp := Rep X.K X.mg) h).mono fun v H1 ⟨W1, o1, e1, m1, d1, u1, M1, r1, h1⟩ => by
    obtain ⟨d, hd, h2⟩ := Post.fin h1
    clear h1
    unfold fldG at hd
    split at hd
    · split at hd
      · rename_i ec
        subst ec
        obtain ⟨a, C', dx, vs, rfl, hC', hp, hO, hl, r⟩ := r1
        rw [hm] at hC'
        cases hC'
        obtain ⟨v, hv, rv⟩ := fldL_rep r hd
        exact ⟨a, C, dx, _, v, rfl, M1.sub _ _ hp, hC, hn, hv, Post.here h2 M1 rv⟩
      · cases hd
    · cases hd⟩
def insIs (cn m : Str) : D → Bool
  | .ins c ns _ => decide (c = cn) && !hasN ns m
  | _ => false
theorem insIs_rep {W : Wd} {o1 : Nat → Option Addr} {σ : L2.St} {H : Hp} {ev : Env} {ms : MS} {d : D} {v : V} (M : Mt X.K X.mg c W o1 σ H ev ms) (h : insIs cn m d = true) (hm : X.mg cn = some (.ref C)) (r : Rep X.K X.mg W d v) :
    ∃ a dx fs, v = .ref a ∧ H a = some (.ins C dx fs) ∧ fs.lookup m = none := by
  unfold insIs at h
  split at h
  · obtain ⟨h1, h2⟩ := Bool.and_eq_true_iff.mp h
    have ec := of_decide_eq_true h1
    subst ec
    obtain ⟨a, C', dx, vs, rfl, hC', hp, hO, hl, r⟩ := r
    rw [hm] at hC'
    cases hC'
    exact ⟨a, dx, _, rfl, M.sub _ _ hp, zip_lookup (by simpa using h2)⟩
  · cases h
/-- o.m(..), o an instance of cn -/
def xMeth (cn m : Str) (g : FF) (fo : FE) (fa : FA) : FE := fun e ms => (fo e ms).bind fun d e ms => if insIs cn m d then (fa e ms).bind fun ds e ms => (g (d :: ds) ms).atE e else .no
theorem ee_meth {pl : Sem Bool} (hm : X.mg cn = some (.ref C)) (hC : Cls X.K C) (hM : Meth X.K C m g) (F : FDX X k g f) (hr : Room k X.A) (hx : PX X Wx E) (ho : EE X c Wx o fo) (ha : EA X c Wx (e :: es) fa)
    (hst : starEach (e :: es) X.env = (false, eval e X.env) :: starEach es X.env := by rfl) (hpl : (backTo pos (starEach es X.env)).any (·.1) = false := by rfl)
    (ht : eval (.Call (.Attribute o m apos) (e :: es) [] pos) X.env = (do
      let ov ← eval o X.env
      standAt apos.atName
      let (fx, first) ← holding [ov] (getMethod ov m pl)
      callWith pos fx first (backTo pos (starEach (e :: es) X.env)) (backToKw pos (keywordEach [] X.env))) := by rfl) :
    EE X c Wx (.Call (.Attribute o m apos) (e :: es) [] pos) (xMeth cn m f fo fa) :=
  (pe_mR (pl := pl) ho hC hM F hr hx.1 ha hst hpl ht).impQ fun σ H Q ⟨W, o, e, ms, M, h⟩ => ⟨W, o, e, ms, M, (Post.bind (Rp := Rep X.K X.mg) h).mono fun v H1 ⟨W1, o1, e1, m1, d1, u1, M1, r1, h1⟩ => by
    split at h1
    · rename_i hi
      obtain ⟨a, dx, fs, rfl, hH, hl⟩ := insIs_rep M1 hi hm r1
      exact ⟨a, dx, fs, rfl, hH, hl, W1, o1, e1, m1, M1, (Post.bind (Rp := Reps X.K X.mg) h1).mono fun vs H2 ⟨W2, o2, e2, m2, ds, u2, M2, r2, h2⟩ => spD_of (ds := d1 :: ds) M2 ⟨_, _, rfl, r1.up u2, r2⟩ (fun cls d H => hx.2 cls d σ H) h2⟩
    · exact h1.elim⟩
def xMeth0 (cn m : Str) (g : FF) (fo : FE) : FE := fun e ms => (fo e ms).bind fun d e ms => if insIs cn m d then (g [d] ms).atE e else .no
theorem ee_meth0 {pl : Sem Bool} (hm : X.mg cn = some (.ref C)) (hC : Cls X.K C) (hM : Meth X.K C m g) (F : FDX X k g f) (hr : Room k X.A) (hx : PX X Wx E) (ho : EE X c Wx o fo)
    (ht : eval (.Call (.Attribute o m apos) [] [] pos) X.env = (do
      let ov ← eval o X.env
      standAt apos.atName
      let (fx, first) ← holding [ov] (getMethod ov m pl)
      callWith pos fx first (backTo pos (starEach [] X.env)) (backToKw pos (keywordEach [] X.env))) := by rfl) :
    EE X c Wx (.Call (.Attribute o m apos) [] [] pos) (xMeth0 cn m f fo) :=
  (pe_mR0 (pl := pl) ho hC hM F hr hx.1 ht).impQ fun σ H Q ⟨W, o, e, ms, M, h⟩ => ⟨W, o, e, ms, M, (Post.bind (Rp := Rep X.K X.mg) h).mono fun v H1 ⟨W1, o1, e1, m1, d1, u1, M1, r1, h1⟩ => by
    split at h1
    · rename_i hi
      obtain ⟨a, dx, fs, rfl, hH, hl⟩ := insIs_rep M1 hi hm r1
      exact ⟨a, dx, fs, rfl, hH, hl, spD_of (ds := [d1]) M1 (Reps.one r1) (fun cls d H => hx.2 cls d σ H) h1⟩
    · exact h1.elim⟩
/-- o.m(k = v, ..) -/
def xMethK (cn m : Str) (n : Nat) (idx : List Nat) (g : FF) (fo : FE) (fk : FA) : FE := fun e ms => (fo e ms).bind fun d e ms => if insIs cn m d then (fk e ms).bind fun ds e ms => if ds.length = n then (g (permL idx [d] ds) ms).atE e else .no else .no
theorem ee_methK {pl : Sem Bool} (hm : X.mg cn = some (.ref C)) (hC : Cls X.K C) (hM : Meth X.K C m g) (F : FnRK X.prog X.w X.K X.mg X.base (L2.CX X.prog X.w) k g 1 ks idx (spD X.K X.mg f)) (hr : Room k X.A) (hx : PX X Wx E) (ho : EE X c Wx o fo) (hkw : EK X c Wx kws fk)
    (hall : (backToKw pos (keywordEach kws X.env)).all (·.1.isSome) = true := by rfl) (hks : (backToKw pos (keywordEach kws X.env)).filterMap (·.1) = ks := by rfl)
    (hpl : ((backTo pos (starEach [] X.env)).any (·.1) || (backToKw pos (keywordEach kws X.env)).any (·.1.isNone)) = false := by rfl)
    (ht : eval (.Call (.Attribute o m apos) [] kws pos) X.env = (do
      let ov ← eval o X.env
      standAt apos.atName
      let (fx, first) ← holding [ov] (getMethod ov m pl)
      callWith pos fx first (backTo pos (starEach [] X.env)) (backToKw pos (keywordEach kws X.env))) := by rfl) :
    EE X c Wx (.Call (.Attribute o m apos) [] kws pos) (xMethK cn m ks.length idx f fo fk) :=
  (pe_mRK0 (pl := pl) ho hC hM F hr hx.1 hkw hall hks hpl ht).impQ fun σ H Q ⟨W, o, e, ms, M, h⟩ => ⟨W, o, e, ms, M, (Post.bind (Rp := Rep X.K X.mg) h).mono fun v H1 ⟨W1, o1, e1, m1, d1, u1, M1, r1, h1⟩ => by
    split at h1
    · rename_i hi
      obtain ⟨a, dx, fs, rfl, hH, hl⟩ := insIs_rep M1 hi hm r1
      refine ⟨a, dx, fs, rfl, hH, hl, ?_⟩
      show tA X.K X.mg c Wx fk σ H1 _
      refine ⟨W1, o1, e1, m1, M1, (Post.bind (Rp := Reps X.K X.mg) h1).mono fun vs H2 ⟨W2, o2, e2, m2, ds, u2, M2, r2, h2⟩ => ?_⟩
      split at h2
      · rename_i hn
        exact ⟨rfl, by rw [← r2.len]; exact hn, spD_of M2 (Reps.perm (Reps.one (r1.up u2)) r2 idx) (fun cls d H => hx.2 cls d σ H) h2⟩
      · exact h2.elim
    · exact h1.elim⟩
/-- a property -/
def xProp (cn : Str) (g : FF) (fo : FE) : FE := fun e ms => (fo e ms).bind fun d e ms => if insIs cn "" d then (g [d] ms).noX.atE e else .no
theorem ee_prop {fd : FuncData} {ps : List Str} {pa : Addr} (hm : X.mg cn = some (.ref C)) (hC : Cls X.K C) (hP : PropOf X.K C x pa g) (F : FnOk X.prog X.w X.K X.mg X.base (L2.CX X.prog X.w) k g fd ps (spD X.K X.mg f)) (hbd : Binds X.K fd ps []) (hr : Room (k + 1) X.A) (ho : EE X c Wx o fo)
    (hb : attributeBase o x X.env (eval o X.env) = eval o X.env := by rfl) : EE X c Wx (.Attribute o x pos) (xProp cn f fo) :=
  (pe_prop (E := E0) (dvs := []) ho hC hP F hr hbd .nil (by exact passL) hb).impQ fun σ H Q ⟨W, o, e, ms, M, h⟩ => ⟨W, o, e, ms, M, (Post.bind (Rp := Rep X.K X.mg) h).mono fun v H1 ⟨W1, o1, e1, m1, d1, u1, M1, r1, h1⟩ => by
    split at h1
    · rename_i hi
      obtain ⟨a, dx, fs, rfl, hH, hl⟩ := insIs_rep M1 hi hm r1
      refine ⟨a, dx, fs, rfl, hH, spD_of (Wx := W0) (ds := [d1]) M1 (Reps.one r1) (fun cls d H z => z.elim) ?_⟩
      cases q : f [d1] m1 with
      | ok d e m =>
        rw [q] at h1
        exact h1
      | ex n ns vs e m => rw [q] at h1; exact h1.elim
      | no => rw [q] at h1; exact h1.elim
    · exact h1.elim⟩
/-! ### classes -/
def isGlo (cn : Str) : D → Bool
  | .glo x => decide (x = cn)
  | _ => false
theorem isGlo_rep {W : Wd} {d : D} {v : V} (h : isGlo cn d = true) (hm : X.mg cn = some (.ref C)) (r : Rep X.K X.mg W d v) : v = .ref C := by
  unfold isGlo at h
  split at h
  · have ec := of_decide_eq_true h
    subst ec
    obtain ⟨a, rfl, ha⟩ := r
    rw [hm] at ha
    cases ha
    rfl
  · cases h
/-- C.m(..), m a classmethod -/
def xCMeth (cn : Str) (g : FF) (fo : FE) (fa : FA) : FE := fun e ms => (fo e ms).bind fun d e ms => if isGlo cn d then (fa e ms).bind fun ds e ms => (g (d :: ds) ms).atE e else .no
theorem ee_cmeth {pl : Sem Bool} {mc : Value} {pa : Addr} (hm : X.mg cn = some (.ref C)) (hR : ClX.CRead X.K C mc) (hM : ClX.CMet X.K C mc m pa g) (F : FDX X k g f) (hr : Room k X.A) (hx : PX X Wx E) (ho : EE X c Wx o fo) (ha : EA X c Wx (e :: es) fa)
    (hst : starEach (e :: es) X.env = (false, eval e X.env) :: starEach es X.env := by rfl) (hpl : (backTo pos (starEach es X.env)).any (·.1) = false := by rfl)
    (ht : eval (.Call (.Attribute o m apos) (e :: es) [] pos) X.env = (do
      let ov ← eval o X.env
      standAt apos.atName
      let (fx, first) ← holding [ov] (getMethod ov m pl)
      callWith pos fx first (backTo pos (starEach (e :: es) X.env)) (backToKw pos (keywordEach [] X.env))) := by rfl) :
    EE X c Wx (.Call (.Attribute o m apos) (e :: es) [] pos) (xCMeth cn f fo fa) :=
  (ClX.pe_cmeth (pl := pl) ho hR hM F hr hx.1 ha hst hpl ht).impQ fun σ H Q ⟨W, o, e, ms, M, h⟩ => ⟨W, o, e, ms, M, (Post.bind (Rp := Rep X.K X.mg) h).mono fun v H1 ⟨W1, o1, e1, m1, d1, u1, M1, r1, h1⟩ => by
    split at h1
    · rename_i hi
      have ev := isGlo_rep hi hm r1
      subst ev
      exact ⟨rfl, W1, o1, e1, m1, M1, (Post.bind (Rp := Reps X.K X.mg) h1).mono fun vs H2 ⟨W2, o2, e2, m2, ds, u2, M2, r2, h2⟩ => spD_of (ds := d1 :: ds) M2 ⟨_, _, rfl, r1.up u2, r2⟩ (fun cls d H => hx.2 cls d σ H) h2⟩
    · exact h1.elim⟩
def xCMethK (cn : Str) (n : Nat) (idx : List Nat) (g : FF) (fo : FE) (fk : FA) : FE := fun e ms => (fo e ms).bind fun d e ms => if isGlo cn d then (fk e ms).bind fun ds e ms => if ds.length = n then (g (permL idx [d] ds) ms).atE e else .no else .no
theorem ee_cmethK {pl : Sem Bool} {mc : Value} {pa : Addr} (hm : X.mg cn = some (.ref C)) (hR : ClX.CRead X.K C mc) (hM : ClX.CMet X.K C mc m pa g) (F : FnRK X.prog X.w X.K X.mg X.base (L2.CX X.prog X.w) k g 1 ks idx (spD X.K X.mg f)) (hr : Room k X.A) (hx : PX X Wx E) (ho : EE X c Wx o fo) (hkw : EK X c Wx kws fk)
    (hall : (backToKw pos (keywordEach kws X.env)).all (·.1.isSome) = true := by rfl) (hks : (backToKw pos (keywordEach kws X.env)).filterMap (·.1) = ks := by rfl)
    (hpl : ((backTo pos (starEach [] X.env)).any (·.1) || (backToKw pos (keywordEach kws X.env)).any (·.1.isNone)) = false := by rfl)
    (ht : eval (.Call (.Attribute o m apos) [] kws pos) X.env = (do
      let ov ← eval o X.env
      standAt apos.atName
      let (fx, first) ← holding [ov] (getMethod ov m pl)
      callWith pos fx first (backTo pos (starEach [] X.env)) (backToKw pos (keywordEach kws X.env))) := by rfl) :
    EE X c Wx (.Call (.Attribute o m apos) [] kws pos) (xCMethK cn ks.length idx f fo fk) :=
  (pe_cmethK0 (pl := pl) ho hR hM F hr hx.1 hkw hall hks hpl ht).impQ fun σ H Q ⟨W, o, e, ms, M, h⟩ => ⟨W, o, e, ms, M, (Post.bind (Rp := Rep X.K X.mg) h).mono fun v H1 ⟨W1, o1, e1, m1, d1, u1, M1, r1, h1⟩ => by
    split at h1
    · rename_i hi
      have ev := isGlo_rep hi hm r1
      subst ev
      refine ⟨rfl, W1, o1, e1, m1, M1, (Post.bind (Rp := Reps X.K X.mg) h1).mono fun vs H2 ⟨W2, o2, e2, m2, ds, u2, M2, r2, h2⟩ => ?_⟩
      split at h2
      · rename_i hn
        exact ⟨by rw [← r2.len]; exact hn, spD_of M2 (Reps.perm (Reps.one (r1.up u2)) r2 idx) (fun cls d H => hx.2 cls d σ H) h2⟩
      · exact h2.elim
    · exact h1.elim⟩
/-! ### new instances -/
def madeG (cn : Str) (g : FI) : List D → Env → MS → R D := fun ds e m => ((g ds m).atE e).bind fun p e m => .ok (.ins cn p.1 p.2) e m
def xMake (cn : Str) (g : FI) (fa : FA) : FE := fun e m => (fa e m).bind (madeG cn g)
theorem spI_of {K : PySem.W.Frag} {mg : Str → Option Value} {W : Wd} {o : Nat → Option Addr} {σ : L2.St} {H : Hp} {ev : Env} {ms : MS} {f : FI} {ds : List D} {vs : List V} {Q : VK} {a dx C : Addr} (M : Mt K mg c W o σ H ev ms) (r : Reps K mg W ds vs) (hm : mg cn = some (.ref C)) (hE : ∀ cls d H, Wx cls d σ H → E cls d H)
    (h : Post K mg c W σ (Rep K mg) Q Wx (madeG cn f ds ev ms)) (hx : H a = none) (hd : H dx = none) (ne : dx ≠ a) : spI K mg cn f (.ref a :: vs) (upd (upd H dx (.own a)) a (.ins C dx [])) (fun v H2 => v = .non ∧ Q (.ref a) H2) E := by
  refine ⟨W, ms, ds, vs, a, dx, C, H, rfl, hm, hx, hd, ne, rfl, M.entry, r, ?_⟩
  unfold madeG at h
  cases q : f ds ms with
  | ok p e1 m1 =>
    rw [q] at h
    exact fun W' o' H' v u N r' ev' => ⟨rfl, h W' o H' (.ref a) u (M.back u N) (ev' ▸ r')⟩
  | ex n ns vs e1 m1 =>
    rw [q] at h
    exact fun W' o' H' C dd u N h1 h2 => hE _ _ _ (h W' o H' C dd u (M.back u N) h1 h2)
  | no =>
    rw [q] at h
    exact h.elim
abbrev FIX (X : Cx) (k : Nat) (g : Addr) (cn : Str) (f : FI) : Prop := FnR X.prog X.w X.K X.mg X.base (L2.CX X.prog X.w) k g (spI X.K X.mg cn f)
theorem ee_make {fi : FI} (hM : Mk X.K C g) (F : FIX X k g cn fi) (hr : Room (k + 1) X.A) (hg : Gl X cn) (hm : X.mg cn = some (.ref C)) (hx : PX X Wx E) (ha : EA X c Wx (e :: es) fa) (hd : (cn == ("__debug__" : Str)) = false := by decide)
    (he : starEach (e :: es) X.env = (false, eval e X.env) :: starEach es X.env := by rfl) (hpl : (backTo pos (starEach es X.env)).any (·.1) = false := by rfl) : EE X c Wx (.Call (.Name cn pp) (e :: es) [] pos) (xMake cn fi fa) :=
  (StX.pe_makeR hM F hr hg hm hx.1 ha hd he hpl).impQ fun σ H Q ⟨W, o, e, m, M, h⟩ => ⟨W, o, e, m, M, (Post.bind (Rp := Reps X.K X.mg) h).mono fun vs H1 ⟨W1, o1, e1, m1, ds, u1, M1, r1, h1⟩ => fun a dx ha hd ne => spI_of M1 r1 hm (fun cls d H => hx.2 cls d σ H) h1 ha hd ne⟩
/-- v(..), v a name that holds the class cn -/
def xMakeV (i : Nat) (cn : Str) (g : FI) (fa : FA) : FE := fun e m => match e[i]? with
  | some (some (.fz d)) => if isGlo cn d then (fa e m).bind (madeG cn g) else .no
  | _ => .no
theorem ee_makeV {fi : FI} (hM : Mk X.K C g) (F : FIX X k g cn fi) (hr : Room (k + 1) X.A) (hm : X.mg cn = some (.ref C)) (hx : PX X Wx E) (hN : X.N[i]? = some x) (hv : Vis X.env.scope x) (ha : EA X c Wx (e :: es) fa) (hd : (x == ("__debug__" : Str)) = false := by decide) (hcd : (x == ("__classdict__" : Str)) = false := by decide)
    (he : starEach (e :: es) X.env = (false, eval e X.env) :: starEach es X.env := by rfl) (hpl : (backTo pos (starEach es X.env)).any (·.1) = false := by rfl) : EE X c Wx (.Call (.Name x pp) (e :: es) [] pos) (xMakeV i cn fi fa) :=
  (pe_makeV (i := i) hM F hr hx.1 hN hv ha hd hcd he hpl).impQ fun σ H Q ⟨W, o, e, m, M, h⟩ => by
    unfold xMakeV at h
    split at h
    · rename_i d hd
      split at h
      · rename_i hi
        obtain ⟨y, hy, v, rfl, r⟩ := M.env i _ hd
        have ev := isGlo_rep hi hm r
        subst ev
        exact ⟨hy, W, o, e, m, M, (Post.bind (Rp := Reps X.K X.mg) h).mono fun vs H1 ⟨W1, o1, e1, m1, ds, u1, M1, r1, h1⟩ => fun a dx ha hd ne => spI_of M1 r1 hm (fun cls d H => hx.2 cls d σ H) h1 ha hd ne⟩
      · exact h.elim
    · exact h.elim
/-! ### self.f = value, self in the making -/
def sFld (cn : Str) (i : Nat) (x : Str) (f : FE) : FS := fun e m => (f e m).thn fun d e m => match e[i]? with
  | some (some (.oi c ns vs)) => if decide (c = cn) && (!hasN ns x && decide (ns.length < 1000)) then .nx (e.set i (some (.oi c (ns ++ [x]) (vs ++ [d])))) m else .no
  | _ => .no
theorem putF_zip {x : Str} {v : V} : ∀ {ns : List Str} {vs : List V}, ns.length = vs.length → hasN ns x = false → putF x v (ns.zip vs) = (ns ++ [x]).zip (vs ++ [v])
  | [], [], _, _ => rfl
  | n :: ns, [], h, _ => by cases h
  | [], v :: vs, h, _ => by cases h
  | n :: ns, w :: vs, h, hn => by
    unfold hasN at hn
    simp only [List.any_cons, Bool.or_eq_false_iff] at hn
    show (if n = x then _ else (n, w) :: putF x v (ns.zip vs)) = (n, w) :: (ns ++ [x]).zip (vs ++ [v])
    rw [if_neg fun z => by rw [z] at hn; simp at hn, putF_zip (by simpa using h) (by unfold hasN; exact hn.2)]
theorem ss_fldI {self : Str} {p1 p2 : Pos} {v : Expr} {fv : FE} (hm : X.mg cn = some (.ref C)) (hC : Cls X.K C) (hn : NoAttr X.K C x) (hN : X.N[i]? = some self) (hv : Vis X.env.scope self) (he : EE X c Wx v fv)
    (hs : swapsWith v (some (.Attribute (.Name self p1) x p2)) pos.line X.env = pure false := by rfl) (hd : (self == ("__debug__" : Str)) = false := by decide) (hcd : (self == ("__classdict__" : Str)) = false := by decide) :
    SS X c Wx (.Assign [.Attribute (.Name self p1) x p2] v pos) (sFld cn i x fv) := by
  exact (ps_fld (pe_var hN hv hd hcd) he hs).impQ fun Dn σ H ⟨W, o, e, m, M, h⟩ => ⟨W, o, e, m, M, (PostS.thn (Rp := Rep X.K X.mg) h).mono fun v H1 ⟨W1, o1, e1, m1, d, u1, M1, r1, h1⟩ => by
    split at h1
    case h_2 => exact h1.elim
    rename_i c' ns vs hi
    split at h1
    case isFalse => exact h1.elim
    rename_i hc
    obtain ⟨h2, h3⟩ := Bool.and_eq_true_iff.mp hc
    obtain ⟨h4, h5⟩ := Bool.and_eq_true_iff.mp h3
    have ec := of_decide_eq_true h2
    have hlt := of_decide_eq_true h5
    have hnn : hasN ns x = false := by simpa using h4
    subst ec
    obtain ⟨y, hy, a, C', dx, us, ho, ⟨rfl, ha⟩, hC', hH, hO, hl, hr⟩ := M1.env i _ hi
    rw [hm] at hC'
    cases hC'
    refine ⟨.ref a, hy, a, C, dx, _, rfl, hH, hC, hn, ?_, ?_⟩
    · rw [List.length_zip]
      omega
    · rw [putF_zip hl hnn]
      refine h1 W1 o1 σ _ (Up.refl W1) (M1.turn ho hi fun y2 hy2 _ => ?_)
      rw [hy] at hy2
      cases hy2
      exact ⟨a, C, dx, us ++ [v], ho, ⟨rfl, ha⟩, hm, upd_same, hO, by simp [hl], hr.append (Reps.one r1)⟩⟩
end
end Qd
end
section
set_option Elab.async false
set_option linter.all false
set_option autoImplicit false
set_option maxRecDepth 100000

/-! enumerate of a tuple, walked. -/
namespace Qz
open PySem PySem.Spec PyProof.Rows L2

set_option maxHeartbeats 1000000 in
theorem enum_one {v : Value} {o : Obj} {G : Heap → Prop} (B : Begins v o G) :
    Meets (Builtin.«enumerate.__new__» ⟨[.type "enumerate", v], []⟩) (fun _ R s => G s.heap ∧
      R (.ok (.ret (.ref (s.heap.push o).objs.size))) { s with heap := (s.heap.push o).push { cls := .type "enumerate", data := .fields #[.none, .bool false, .ref s.heap.objs.size, rawInt 0, .none, .none] } }) :=
  .of_wp fun prog w A R s h => by
    obtain ⟨hp, gens, dd, tk, os⟩ := s
    obtain ⟨hG, h⟩ := h
    have hsub := sub_enumerate
    have qi : ∀ {A' : Around} {E : Value → Shared → Prop} {Q : Value → Shared → Prop}, Q (.ref hp.objs.size) ⟨hp.push o, gens, dd, tk, os⟩ → wpAny (model prog w) A' (pyIter v) Q E ⟨hp, gens, dd, tk, os⟩ :=
      fun q => B.iter prog w _ _ ⟨hp, gens, dd, tk, os⟩ _ hG q
    wp_walk using qi
    refine wpAny_stack_any fun st => wpAny_pure ?_
    split
    · rename_i cc _ _ _ _ _
      cases (cc == Value.type "enumerate")
      · wp_walk using qi
        exact ⟨_, rfl, h⟩
      · wp_walk using qi
        exact ⟨_, rfl, h⟩
    · wp_walk using qi
      exact ⟨_, rfl, h⟩
theorem enum_call {prog : Program} {w : World} {A : Around} {E : Value → Shared → Prop} {s : Shared} {v : Value} {o : Obj} {G : Heap → Prop} {Q : Value → Shared → Prop} (B : Begins v o G) (hG : G s.heap)
    (h : ∀ h', IsEnum h' (s.heap.objs.size + 1) s.heap.objs.size 0 .none → h'.get? s.heap.objs.size = some o → (∀ b o, s.heap.get? b = some o → h'.get? b = some o) → Q (.ref (s.heap.objs.size + 1)) { s with heap := h' }) :
    wpAny (model prog w) A (call (.type "enumerate") [v]) Q E s := by
  refine callType_new F.called_enumerate (by decide) (F.typeCall_enumerate_1 _) (F.newCall_enumerate_1 _) (fun obj => F.args_object_init_2 obj _) F.entry_enumerate_new (enum_one B) ⟨hG, ?_⟩
  have hz : (s.heap.push o).objs.size = s.heap.objs.size + 1 := Heap.size_push ..
  show _ ∧ _
  rw [hz]
  have he : IsEnum ((s.heap.push o).push { cls := .type "enumerate", data := .fields #[.none, .bool false, .ref s.heap.objs.size, rawInt 0, .none, .none] }) (s.heap.objs.size + 1) s.heap.objs.size 0 .none := by
    have z := Heap.get?_push_size (s.heap.push o) (o := { cls := .type "enumerate", data := .fields #[.none, .bool false, .ref s.heap.objs.size, rawInt 0, .none, .none] }) rfl
    rw [hz] at z
    exact z
  exact ⟨⟨_, he, rfl⟩, h _ he (Heap.get?_push_of_some _ (Heap.get?_push_size _ B.free)) fun b o x => Heap.get?_push_of_some _ (Heap.get?_push_of_some _ x)⟩
/-- the tuple at a, its items in new pairs -/
def Itet (K : PySem.W.Frag) (a : Addr) : It :=
  ⟨fun i H => ∃ (xs : List V) (x : V), SqT K H a xs ∧ xs[i]? = some x, fun i H v H' => ∃ T x, v = .ref T ∧ H T = none ∧ H' = upd H T (.tup [.int (i : Nat), x]) ∧ ∀ xs, SqT K H a xs → xs[i]? = some x, fun i H => ∃ xs : List V, SqT K H a xs ∧ xs.length ≤ i⟩
theorem turn_enumT {P : Program} {w : World} {K : PySem.W.Frag} {elts : List Expr} {kk : Nat} {tpos : Pos} (a e it : Addr) (hai : a ≠ it) (hae : e ≠ a) :
    Turn P w K (.Tuple elts kk tpos) (Itet K a) [e, it] e (fun i h => (∃ old, IsEnum h e it ((i : Nat) : Int) old) ∧ h.IsTupleIter it a i ∧ e ≠ it) where
  mem := by simp
  obj := fun i h st b hb => by
    obtain ⟨⟨old, he⟩, ⟨o, ho, hc, hd⟩, _⟩ := st
    rcases (show b = e ∨ b = it by simpa using hb) with z | z
    · rw [z]; exact ⟨_, he, fun v q => nomatch q⟩
    · rw [z]; exact ⟨o, ho, fun v q => by rw [hd] at q; cases q⟩
  keep := fun i h h' st k => let ⟨⟨old, he⟩, hi, hne⟩ := st; ⟨⟨old, k e (by simp) _ he⟩, hi.at fun o q => k it (by simp) o q, hne⟩
  item := by
    intro X hP hw hK hc i pins s σ H E I hf st hg
    subst hP hw hK
    obtain ⟨⟨old, he⟩, hit, hne⟩ := st
    obtain ⟨xs, x, hq, hx⟩ := hg
    obtain ⟨its, rv, p, hz⟩ := I.tuple hq
    have hT0 : s.heap.IsTuple a its.toArray := p
    obtain ⟨u, hu, ru⟩ := rv.get hx
    have hel : e < s.heap.objs.size := Heap.lt_size he
    have hil : it < s.heap.objs.size := by obtain ⟨_, q, _⟩ := hit; exact Heap.lt_size q
    have hit2 : i < its.toArray.size := by
      have := (List.getElem?_eq_some_iff.mp hu).1
      simpa using this
    refine wpAny_pyNext_enum_itemD (Draws.tuple (A := X.A.in1) (I.ok.hd hc) it a hai its.toArray) he ⟨hit, hT0⟩ hit2 hne (by simp [hne, hae]) fun x' h' tk hx' ho hst' hT hsz hk => ?_
    have ex : x' = u := by
      have hx' : its.toArray[i]? = some x' := hx'
      have h2 : its.toArray[i]? = some u := by simpa using hu
      rw [h2] at hx'
      exact (Option.some.inj hx').symm
    subst ex
    refine ⟨_, rfl, wpAny_letOwnedTupleGo_enum (s := { s with heap := h', toks := tk + 1 }) ho fun h'' he' sb => ?_⟩
    have hT2 : h''.get? s.heap.objs.size = some { cls := .type "tuple", data := .seq #[.int i tk, x'] } := (sb.2 _ (Nat.ne_of_gt hel)).trans hT
    have new : ObjOk X.prog X.w (upd H s.heap.objs.size (.tup [.int (i : Nat), x])) h'' s.heap.objs.size (.tup [.int (i : Nat), x]) :=
      ⟨by show 2 ≤ sizeLine; decide, [.int i tk, x'], .cons ⟨_, rfl⟩ (.cons ru .nil), ⟨_, hT2, rfl, _, rfl⟩⟩
    have I1 : Inv X pins σ (upd H s.heap.objs.size (.tup [.int (i : Nat), x])) { s with heap := h'', toks := tk + 1 } :=
      I.turnedNew (ch := [e, it]) (fun b ob hb q => (sb.2 b (fun z => hb (by simp [z]))).trans (hk b ob (fun z => hb (by simp [z])) (fun z => hb (by simp [z])) q)) hf (Nat.le_refl _) new
    refine ⟨.ref s.heap.objs.size, _, I1, rfl, ⟨_, x, rfl, I.hok.fresh (Nat.le_refl _), rfl, fun ys hy => by rw [I.tuple_inj hy hq]; exact hx⟩, ⟨⟨x', ?_⟩, hst'.1.at fun o q => (sb.2 it (Ne.symm hne)).trans q, hne⟩, fun b hb => ?_⟩
    · have e1 : ((i + 1 : Nat) : Int) = (i : Int) + 1 := by omega
      rw [e1]; exact he'
    · have hb' : b < s.heap.objs.size := by
        rcases (show b = e ∨ b = it by simpa using hb) with z | z
        · rw [z]; exact hel
        · rw [z]; exact hil
      rw [upd_ne (Nat.ne_of_lt hb')]
      exact (hf b hb).1
  done := by
    intro X hP hw hK hc i pins s σ H E I hf st hg
    subst hP hw hK
    obtain ⟨⟨old, he⟩, hit, hne⟩ := st
    obtain ⟨xs, hq, hx⟩ := hg
    obtain ⟨its, rv, p, hz⟩ := I.tuple hq
    have hT0 : s.heap.IsTuple a its.toArray := p
    obtain ⟨f0, f1, f2, f3, f4, f5⟩ := hf it (by simp)
    have hl := rv.length
    have hT : s.TypeIs (.ref e) "enumerate" := ⟨_, he, rfl⟩
    unfold pyNext
    refine wpAny_bind (wpAny_attempt (wpAny_callSpecial?_slot (name := Str.ofString "__next__") hT F.slot_enumerate_next
      (wpAny_call_entry F.slot_enumerate_next hT F.entry_enumerate_next ?_ (F.args_enumerate_next_1 _))))
    show wpAny _ _ (field (.ref e) 2 >>= _) _ _ _
    refine wpAny_bind (wpAny_field he rfl (x := .ref it) rfl ?_)
    refine wpAny_bind (wpAny_nextOf_tuple_end (I.ok.hd hc) hit hT0 (by simp; omega) fun h' x eb hx' => ?_)
    obtain ⟨o, ho, hcl⟩ := hx'
    refine wpAny_bind (wpAny_isInstance (T := "StopIteration") (b := true) ⟨o, ho, hcl⟩ isSubtype_stop ?_)
    exact wpAny_pure ⟨rfl, I.turned (t' := s.toks) (fun b o hb q => eb b o hb q) f0 f1 f3 f4 f5⟩
  self := fun A i s Q E st h => let ⟨⟨_, he⟩, _⟩ := st; wpAny_pyIter_enum he h
def iEnumT (K : PySem.W.Frag) (ta : TA) : TI := fun σ H R => ta σ H fun vs H1 => ∃ a xs, vs = [.ref a] ∧ SqT K H1 a xs ∧ R (Itet K a) H1
theorem pi_enumT {X : Cx} {e : Expr} {ta : TA} {p pos tpos : Pos} {elts : List Expr} {kk : Nat} (hg : Gl X "enumerate") (hm : X.mg "enumerate" = none) (ha : PA X [e] ta) (hs : starEach [e] X.env = [(false, eval e X.env)] := by rfl) :
    PI X (.Tuple elts kk tpos) (.Call (.Name "enumerate" p) [e] [] pos) (iEnumT X.K ta) := by
  refine ⟨fun pins s σ H R I h => ?_⟩
  refine Call_ (ld_blt I hg hm boot_enumerate (PyProof.Rows.callWith_type1 (thn (ha.run pos pins s σ H _ I h) fun us s1 ⟨vs, H1, I1, r1, q1⟩ => ?_) hs rfl))
  obtain ⟨a, xs, ex, hq, q⟩ := q1
  subst ex
  cases r1 with
  | cons r rr =>
    cases rr
    cases r
    obtain ⟨its, rv, p', hz⟩ := I1.tuple hq
    have hT0 : s1.heap.IsTuple a its.toArray := p'
    have hal : a < s1.heap.objs.size := by obtain ⟨_, q, _⟩ := hT0; exact Heap.lt_size q
    refine enum_call (begins_tuple a its.toArray) hT0 fun h' he hit hk => wpAny_pyIter_enum he ?_
    have I2 : Inv X pins σ H1 { s1 with heap := h' } := I1.kept (t' := s1.toks) hk
    refine ⟨s1.heap.objs.size + 1, [s1.heap.objs.size + 1, s1.heap.objs.size], _, _, H1, rfl, I2, turn_enumT a (s1.heap.objs.size + 1) s1.heap.objs.size (Nat.ne_of_lt hal) (Nat.ne_of_gt (Nat.lt_succ_of_lt hal)), ⟨⟨.none, he⟩, ⟨_, hit, rfl, rfl⟩, Nat.succ_ne_self _⟩, fun b hb => ?_, q⟩
    have hle : s1.heap.objs.size ≤ b := by
      rcases (show b = s1.heap.objs.size + 1 ∨ b = s1.heap.objs.size by simpa using hb) with z | z
      · rw [z]; exact Nat.le_add_right _ _
      · rw [z]; exact Nat.le_refl _
    exact I1.fpOk hle (I1.hok.fresh hle)
end Qz
end
section
set_option Elab.async false
set_option linter.all false
set_option autoImplicit false
set_option maxRecDepth 100000

/-! enumerate, isinstance, sorted of a dict or of a set. -/
namespace Qd
open PySem PySem.Spec PyProof.Rows L2

section
variable {X : Cx} {c : C0} {Wx : WX} {a b tg : Expr} {fa fb : FE} {pos : Pos} {f : FA}
/-! ### enumerate -/
def enumD : Nat → List D → List D
  | _, [] => []
  | i, d :: ds => .tup [.int (i : Nat), d] :: enumD (i + 1) ds
theorem enumD_len : ∀ (i : Nat) (l : List D), (enumD i l).length = l.length
  | _, [] => rfl
  | i, d :: ds => by unfold enumD; rw [List.length_cons, List.length_cons, enumD_len]
theorem enumD_get : ∀ {l : List D} {i j : Nat} {d : D}, (enumD i l)[j]? = some d → ∃ x, l[j]? = some x ∧ d = .tup [.int (i + j : Nat), x]
  | [], i, j, d, h => by simp [enumD] at h
  | x :: l, i, 0, d, h => by
    have e : D.tup [.int (i : Nat), x] = d := by simpa [enumD] using h
    exact ⟨x, rfl, e.symm⟩
  | x :: l, i, j + 1, d, h => by
    obtain ⟨y, h1, h2⟩ := enumD_get (l := l) (i := i + 1) (j := j) (d := d) (by simpa [enumD] using h)
    refine ⟨y, by simpa using h1, ?_⟩
    rw [h2, show i + 1 + j = i + (j + 1) by omega]
def enumG : List D → Env → MS → R (List D) := fun ds e m => match ds with
  | [.tup l] => .ok (enumD 0 l) e m
  | _ => .no
theorem ei_enum {p tpos : Pos} {elts : List Expr} {kk : Nat} (hg : Gl X "enumerate") (hm : X.mg "enumerate" = none) (ha : EA X c Wx [a] f) (hs : starEach [a] X.env = [(false, eval a X.env)] := by rfl) : EI X c Wx (.Tuple elts kk tpos) (.Call (.Name "enumerate" p) [a] [] pos) (fun e m => (f e m).bind enumG) :=
  (Qz.pi_enumT hg hm ha hs).impQ fun σ H Q ⟨W, o, e, m, M, h⟩ => ⟨W, o, e, m, M, (Post.bind (Rp := Reps X.K X.mg) h).mono fun v H1 ⟨W1, o1, e1, m1, d1, u1, M1, r1, h1⟩ => by
    unfold enumG at h1
    split at h1
    · rename_i l
      obtain ⟨v, rfl, p, vs, rfl, hp, hz, r⟩ := r1.one_inv
      refine ⟨p, vs, rfl, SqT.of (M1.sub _ _ hp), Post.here (Rp := RpW X.K X.mg) h1 M1 ⟨⟨fun i d H' hs hi => ?_, fun i H' hs hi => ?_⟩, by rw [enumD_len]; exact hz⟩⟩
      · obtain ⟨x, hx, rfl⟩ := enumD_get hi
        obtain ⟨y, hy, ry⟩ := r.get hx
        refine ⟨⟨vs, y, SqT.of (hs _ _ hp), hy⟩, fun z H'' ⟨T, x', ez, hT, eH, k⟩ => ?_⟩
        have f1 := k vs (SqT.of (hs _ _ hp))
        rw [hy] at f1
        cases f1
        refine .inr ⟨T, _, ez, hT, eH, fun W2 u hW => rep_tup hW (by show 2 ≤ sizeLine; decide) ⟨_, _, rfl, ?_, _, _, rfl, ry.up u, rfl⟩⟩
        show V.int _ = V.int _
        rw [Nat.zero_add]
      · rw [enumD_len] at hi
        exact ⟨vs, SqT.of (hs _ _ hp), by rw [← r.len]; exact hi⟩
    · exact h1.elim⟩

/-! ### isinstance of data, a built-in type -/
def tyD : D → Option String
  | .non => some "NoneType"
  | .bl _ => some "bool"
  | .int _ => some "int"
  | .str _ => some "str"
  | .tup _ => some "tuple"
  | .lst _ => some "list"
  | .dic _ _ => some "dict"
  | _ => none
theorem tyD_rep {W : Wd} {o : Nat → Option Addr} {σ : L2.St} {H : Hp} {e : Env} {m : MS} {d : D} {v : V} {T : String} (M : Mt X.K X.mg c W o σ H e m) (r : Rep X.K X.mg W d v) (h : tyD d = some T) : TyX X.K H v (.type T) := by
  cases d with
  | non => cases h; cases r; exact .base .non
  | bl b => cases h; cases r; exact .base (.bl _)
  | int b => cases h; cases r; exact .base (.int _)
  | str b => cases h; cases r.1; exact .base (.str _)
  | tup l =>
    cases h
    obtain ⟨a, vs, rfl, hp, _⟩ := r
    exact .base (.tup (M.sub _ _ hp))
  | lst l =>
    cases h
    obtain ⟨a, vs, rfl, hp, _⟩ := r
    exact .base (.lst (M.sub _ _ hp))
  | dic ks vs =>
    cases h
    obtain ⟨a, kvs, rfl, hp, _⟩ := r
    rcases rd_up M.sub hp with h1 | ⟨ob, h1⟩
    · exact .base (.dK h1)
    · exact .fDict h1
  | _ => cases h
def isiG : List D → Option D
  | [d, .ty U] => match tyD d with
    | some T => (kitB T U).map .bl
    | none => none
  | _ => none
theorem cd_isi : CaD X c Wx (rIsi X.K) (purA isiG) := by
  intro W o σ H e m xs vs Q M rx h0
  obtain ⟨d, hd, h⟩ := Post.fin h0
  unfold isiG at hd
  split at hd
  · split at hd
    · rename_i T hT
      obtain ⟨r, hr, rfl⟩ := Option.map_eq_some_iff.mp hd
      obtain ⟨v, v', rfl, q1, q2⟩ := rx.two_inv
      cases q2
      exact ⟨_, _, _, _, r, rfl, .ty _, tyD_rep M q1 hT, kit_ty hr, Post.here h M rfl⟩
    · cases hd
  · cases hd
theorem ee_isi {p : Pos} {x1 : Expr} {xs : List Expr} (hgl : Gl X "isinstance") (hm : X.mg "isinstance" = none) (ha : EA X c Wx (x1 :: xs) f) (he : starEach (x1 :: xs) X.env = (false, eval x1 X.env) :: starEach xs X.env := by rfl) (hpl : (backTo pos (starEach xs X.env)).any (·.1) = false := by rfl) :
    EE X c Wx (.Call (.Name "isinstance" p) (x1 :: xs) [] pos) (xA f (purA isiG)) := ee_callB call_isi (by decide +kernel) cd_isi hgl hm ha (by decide) (by decide) he hpl

/-! ### rows of ints, ascending -/
def insU (a : Int) : List Int → List Int
  | [] => [a]
  | b :: l => if a < b then a :: b :: l else if a = b then b :: l else b :: insU a l
/-- ascending, each once -/
def sortU (l : List Int) : List Int := l.foldr insU []
theorem insU_mem (a x : Int) : ∀ l : List Int, x ∈ insU a l ↔ x = a ∨ x ∈ l
  | [] => by simp [insU]
  | b :: l => by
    unfold insU
    split
    · simp
    · split
      · rename_i h
        subst h
        simp
      · simp [insU_mem a x l]
        constructor
        · rintro (h | h | h) <;> simp [h]
        · rintro (h | h | h) <;> simp [h]
theorem insU_asc (a : Int) : ∀ {l : List Int}, l.Pairwise (· < ·) → (insU a l).Pairwise (· < ·)
  | [], _ => by simp [insU]
  | b :: l, h => by
    rw [List.pairwise_cons] at h
    unfold insU
    split
    · rename_i q
      rw [List.pairwise_cons]
      refine ⟨fun x hx => ?_, List.pairwise_cons.mpr h⟩
      rcases List.mem_cons.mp hx with rfl | hx
      · exact q
      · have := h.1 x hx
        omega
    · split
      · exact List.pairwise_cons.mpr h
      · rw [List.pairwise_cons]
        refine ⟨fun x hx => ?_, insU_asc a h.2⟩
        rcases (insU_mem a x l).mp hx with rfl | hx
        · omega
        · exact h.1 x hx
theorem sortU_mem (x : Int) : ∀ l : List Int, x ∈ sortU l ↔ x ∈ l
  | [] => by simp [sortU]
  | a :: l => by
    show x ∈ insU a (sortU l) ↔ _
    rw [insU_mem, sortU_mem x l]
    simp
theorem sortU_asc : ∀ l : List Int, (sortU l).Pairwise (· < ·)
  | [] => .nil
  | a :: l => insU_asc a (sortU_asc l)
theorem asc_uniq : ∀ {l r : List Int}, l.Pairwise (· < ·) → r.Pairwise (· < ·) → (∀ x, x ∈ l ↔ x ∈ r) → l = r
  | [], [], _, _, _ => rfl
  | [], b :: r, _, _, h => by have := (h b).mpr (by simp); simp at this
  | a :: l, [], _, _, h => by have := (h a).mp (by simp); simp at this
  | a :: l, b :: r, h1, h2, h => by
    rw [List.pairwise_cons] at h1 h2
    have e : a = b := by
      rcases List.mem_cons.mp ((h a).mp (by simp)) with q | q
      · exact q
      · rcases List.mem_cons.mp ((h b).mpr (by simp)) with p | p
        · exact p.symm
        · have z1 := h2.1 a q
          have z2 := h1.1 b p
          omega
    subst e
    rw [asc_uniq h1.2 h2.2 fun x => ?_]
    constructor
    · intro hx
      rcases List.mem_cons.mp ((h x).mp (by simp [hx])) with q | q
      · have := h1.1 x hx
        omega
      · exact q
    · intro hx
      rcases List.mem_cons.mp ((h x).mpr (by simp [hx])) with q | q
      · have := h2.1 x hx
        omega
      · exact q
theorem le_uniq : ∀ {l r : List Int}, l.Pairwise (· ≤ ·) → r.Pairwise (· ≤ ·) → l.Perm r → l = r
  | l, r, h1, h2, p => p.eq_of_pairwise (fun a b _ _ x y => Int.le_antisymm x y) h1 h2
def intsD : List D → Option (List Int)
  | [] => some []
  | .int i :: l => (intsD l).map (i :: ·)
  | _ :: _ => none
theorem intsD_is : ∀ {l : List D} {ns : List Int}, intsD l = some ns → l = ns.map D.int
  | [], ns, h => by cases h; rfl
  | d :: l, ns, h => by
    cases d with
    | int i =>
      obtain ⟨n, hn, rfl⟩ := Option.map_eq_some_iff.mp h
      rw [intsD_is hn]
      rfl
    | _ => cases h
theorem reps_intsV {K : PySem.W.Frag} {mg : Str → Option Value} {W : Wd} : ∀ {ns : List Int} {vs : List V}, Reps K mg W (ns.map D.int) vs → vs = ns.map V.int
  | [], vs, h => h
  | n :: ns, vs, h => by
    obtain ⟨v, r, rfl, h1, h2⟩ := h
    cases h1
    rw [reps_intsV h2]
    rfl
/-- sorted(dict), the keys ints -/
def srtDG : List D → Option D
  | [.lst l] => (srtL l).map .lst
  | [.dic ks _] => match intsD ks with
    | some ns => if ns.length < 64 then some (.lst ((ns.mergeSort fun a b => decide (a ≤ b)).map .int)) else none
    | none => none
  | _ => none
theorem mergeSort_le (ns : List Int) : (ns.mergeSort fun a b => decide (a ≤ b)).Pairwise (· ≤ ·) := by
  have := List.pairwise_mergeSort (le := fun a b : Int => decide (a ≤ b)) (fun a b c h1 h2 => by simp at *; omega) (fun a b => by simp; omega) ns
  exact this.imp fun h => by simpa using h
abbrev rSrtD (K : PySem.W.Frag) : List V → Hp → VK → Prop := fun xs H Q => rSrt K xs H Q ∨ ∃ (a : Addr) (kvs : List (Key × V)) (ks : List Int), xs = [.ref a] ∧ Rd H a (.dK kvs) ∧ kvs.map (·.1) = ks.map Sum.inl ∧ ks.length < 64 ∧ ∀ (ys : List Int) (p : Addr), ys.Perm ks → ys.Pairwise (· ≤ ·) → H p = none → Q (.ref p) (upd H p (.lst (ys.map V.int)))
theorem call_srtD (hc : X.calm = true) (hu : X.A.units + 100 < cLine) : CallR X (.builtin "sorted") (rSrtD X.K) := by
  intro pins s σ H vs us Q I r h
  rcases h with h | h
  · exact call_srt hu pins s σ H vs us Q I r h
  · exact call_sortedDI hc pins s σ H vs us Q I r h
theorem cd_srtD : CaD X c Wx (rSrtD X.K) (purA srtDG) := by
  intro W o σ H e m xs vs Q M rx h0
  obtain ⟨d, hd, h⟩ := Post.fin h0
  unfold srtDG at hd
  split at hd
  · obtain ⟨l', h1, rfl⟩ := Option.map_eq_some_iff.mp hd
    obtain ⟨v, rfl, p, ys, rfl, hp, hzr, r⟩ := rx.one_inv
    exact .inl (srt_of M (SqL.of (M.sub _ _ hp)) r h1 h)
  · split at hd
    · rename_i ns hns
      split at hd
      · rename_i h64
        cases hd
        obtain ⟨v, rfl, p, kvs, rfl, hp, ⟨hk, _⟩, r⟩ := rx.one_inv
        refine .inr ⟨p, kvs, ns, rfl, rd_up M.sub hp, ?_, h64, fun ys q hy hs hq => ?_⟩
        · have e := intsD_is hns
          rw [hk] at e
          have : (kvs.map fun p => keyD p.1).map keyK = (ns.map D.int).map keyK := by rw [e]
          rw [List.map_map, List.map_map] at this
          have e2 : kvs.map (some ∘ Prod.fst) = ns.map (some ∘ Sum.inl) := by
            refine Eq.trans ?_ (this.trans ?_)
            · apply List.map_congr_left
              intro x _
              exact (keyK_keyD x.1).symm
            · rfl
          rw [← List.map_map, ← List.map_map] at e2
          exact (List.map_inj_right fun x y h => Option.some.inj h).mp e2
        · have e : ys = ns.mergeSort fun a b => decide (a ≤ b) := le_uniq hs (mergeSort_le ns) (hy.trans (List.mergeSort_perm _ _).symm)
          subst e
          exact Post.new h M hq (rep_lst (M.newP hq) (by rw [List.length_map, List.length_mergeSort]; show _ ≤ 16777216; omega) (reps_ints _))
      · cases hd
    · cases hd
  · cases hd
theorem ee_sortedD {p : Pos} {x1 : Expr} {xs : List Expr} (hc : X.calm = true) (hu : X.A.units + 100 < cLine) (hgl : Gl X "sorted") (hm : X.mg "sorted" = none) (ha : EA X c Wx (x1 :: xs) f) (he : starEach (x1 :: xs) X.env = (false, eval x1 X.env) :: starEach xs X.env := by rfl) (hpl : (backTo pos (starEach xs X.env)).any (·.1) = false := by rfl) :
    EE X c Wx (.Call (.Name "sorted" p) (x1 :: xs) [] pos) (xA f (purA srtDG)) := ee_callB (call_srtD hc hu) (by decide +kernel) cd_srtD hgl hm ha (by decide) (by decide) he hpl
/-! ### sorted(set(ints)) -/
def rSetT (K : PySem.W.Frag) (w : World) : List V → Hp → VK → Prop := fun vs H Q => ∃ (l : Addr) (ns : List Int), vs = [.ref l] ∧ SqT K H l (ns.map V.int) ∧ ns.length < 64 ∧ ∀ (p : Addr) (c : Nat), H p = none → c ≤ ns.length → Q (.ref p) (upd H p (SetO w p (fun j => decide (j ∈ ns)) c))
theorem call_setT (hc : X.calm = true) : CallR X (.type "set") (rSetT X.K X.w) := by
  intro pins s σ H vs us Q I r h
  obtain ⟨l, ns, rfl, hs, hl, q⟩ := h
  obtain ⟨u, rfl, ru⟩ := Vals.one r
  cases ru
  obtain ⟨its, rv, p, hz⟩ := I.tuple hs
  have hi := ints_of_vals rv
  have hT : s.heap.IsTuple l its.toArray := p
  refine call_set_tupI (A := X.A) ns (I.ok.hd hc) hT (by simpa using hi) (by show _ < 4096; omega) fun h' tk c hS hle hk => ?_
  exact ⟨.ref _, upd H s.heap.objs.size (SetO X.w s.heap.objs.size (fun j => decide (j ∈ ns)) c), I.laid (t' := tk) hk (Nat.le_refl _) (setO_new hS), rfl, q _ c (I.hok.fresh (Nat.le_refl _)) hle⟩
def srtSG : List D → Option D
  | [.tup l] => match intsD l with
    | some ns => if ns.length < 64 then some (.lst ((sortU ns).map .int)) else none
    | none => none
  | _ => none
theorem sortU_len : ∀ l : List Int, (sortU l).length ≤ l.length
  | [] => Nat.le_refl _
  | a :: l => by
    have ih := sortU_len l
    have z : ∀ (a : Int) (l : List Int), (insU a l).length ≤ l.length + 1 := by
      intro a l
      induction l with
      | nil => simp [insU]
      | cons b l ih =>
        unfold insU
        split
        · simp
        · split
          · simp
          · simp
            omega
    have := z a (sortU l)
    show (insU a (sortU l)).length ≤ l.length + 1
    omega
theorem ee_sortedSet {p p2 q2 : Pos} (hc : X.calm = true) (hgl : Gl X "sorted") (hm : X.mg "sorted" = none) (hgl2 : Gl X "set") (hm2 : X.mg "set" = none) (ha : EA X c Wx [a] f) (he2 : starEach [a] X.env = (false, eval a X.env) :: starEach [] X.env := by rfl)
    (he : starEach [.Call (.Name "set" p2) [a] [] q2] X.env = (false, eval (.Call (.Name "set" p2) [a] [] q2) X.env) :: starEach [] X.env := by rfl) :
    EE X c Wx (.Call (.Name "sorted" p) [.Call (.Name "set" p2) [a] [] q2] [] pos) (xA f (purA srtSG)) :=
  (pe_callB (cr_sortedSet hc) hgl hm (by decide +kernel) (pa_cons (pe_callTy (call_setT hc) hgl2 hm2 (by decide +kernel) ha (by decide) (by decide) he2 rfl) pa_nil he) (by decide) (by decide) he rfl).impQ fun σ H Q ⟨W, o, e, m, M, h⟩ => by
    refine ⟨W, o, e, m, M, (Post.bind (Rp := Reps X.K X.mg) h).mono fun vs H1 ⟨W1, o1, e1, m1, ds, u1, M1, r1, h1⟩ => ?_⟩
    obtain ⟨d, hd, h2⟩ := Post.fin h1
    clear h1
    unfold srtSG at hd
    split at hd
    · split at hd
      · rename_i ns hns
        split at hd
        · rename_i h64
          cases hd
          obtain ⟨v, rfl, t, ys, rfl, hp, hzr, r⟩ := r1.one_inv
          have e1 := intsD_is hns
          subst e1
          have e2 := reps_intsV r
          subst e2
          refine ⟨t, ns, rfl, SqT.of (M1.sub _ _ hp), h64, fun s k hs hk => ?_⟩
          have M2 := M1.junk (SetO X.w s (fun j => decide (j ∈ ns)) k) hs
          refine ⟨s, _, k, rfl, upd_same, by omega, fun ms q ha hmem hl hq => ?_⟩
          have e3 : ms = sortU ns := asc_uniq ha (sortU_asc ns) fun x => by rw [hmem, sortU_mem]; simp
          subst e3
          exact Post.new h2 M2 hq (rep_lst (M2.newP hq) (by rw [List.length_map]; have := sortU_len ns; show _ ≤ 16777216; omega) (reps_ints _))
        · cases hd
      · cases hd
    · cases hd
end
end Qd
end
section
set_option Elab.async false
set_option linter.all false
set_option autoImplicit false
set_option maxRecDepth 100000

/-! A call of an instance: its own `__call__`. -/
namespace Qd
open PySem PySem.Spec PyProof.Rows L2
theorem fnIn_of {K : PySem.W.Frag} {x q : Str} {st : Stmt} {g : Addr} {fd : FuncData} (F : Fun K x q st g fd) : PySem.W.fnIn K g = true := by
  obtain ⟨_, _, _, _, _, _, _, _, _, _, lk, _⟩ := F.ex
  unfold PySem.W.fnIn
  rw [lk]
/-- what a call of the instance at a asks of the heap behind its arguments -/
def InsA (C a : Addr) (h : Heap) : Prop := ∃ dx od, PySem.W.InstAt h a (PySem.W.instObj C dx) C od
section
variable {M : Model} {A : Around} {E : Value → Shared → Prop} {s : Shared} {env : PySem.Env} {pos : Pos} {a C : Addr} {Q : Value → Shared → Prop}
theorem oc_with {args : List (Bool × Sem Value)} {kws : List (Option Str × Sem Value)} (hp : (args.any (·.1) || kws.any (·.1.isNone)) = false)
    (h : wpAny M A (evalArgs (.ref a) true args kws) (fun us s₁ => InsA C a s₁.heap ∧ wpAny M A (call (.ref a) us.pos us.kw) Q E s₁) E s) : wpAny M A (callWith pos (.ref a) [] args kws) Q E s := by
  unfold callWith
  refine wpAny_bind (wpAny_holding (wpAny_mono h (fun us s₁ k => wpAny_bind (wpAny_standAt ?_)) fun _ _ y => y))
  obtain ⟨⟨dx, od, I⟩, k⟩ := k
  have L := PySem.W.kco_keeper (M := M) I rfl
  simp only [hp]
  refine wpAny_bind (L.here ?_)
  exact wpAny_bind (wpAny_mono (wpAny_operateT k) (fun r s₂ hr => wpAny_bind (wpAny_holding (wpAny_point (wpAny_pure hr)))) fun _ _ y => y)
end
section
variable {X : Cx} {CX : CXT} {c : C0} {Wx : WX} {E : XK} {k n : Nat} {g C : Addr} {sp : Sp} {f : FF} {cn : Str} {pos : Pos} {e o : Expr} {es : List Expr} {ta : TE} {t tk : TA} {fa fk : FA} {fo : FE} {kws : List Keyword} {ks : List Str} {idx : List Nat}
theorem insA {pins : List (Addr × Obj)} {σ : L2.St} {H : Hp} {s : Shared} {a dx : Addr} {fs : List (Str × V)} (I : Inv X pins σ H s) (ea : H a = some (.ins C dx fs)) : InsA C a s.heap := by
  obtain ⟨mA, J, _⟩ := ins_get I.hok ea
  obtain ⟨od, J, _⟩ := J.look
  exact ⟨dx, _, J⟩
def tOC (C : Addr) (sp : Sp) (E : XK) (ta : TE) (t : TA) : TE := fun σ H Q => ta σ H fun x H1 => ∃ a, x = .ref a ∧ t σ H1 fun vs H2 => (∃ dx fs, H2 a = some (.ins C dx fs)) ∧ sp (x :: vs) H2 Q E
theorem pe_oc (he : PE X o ta) (hm : Meth X.K C "__call__" g) (hf : PySem.W.fnIn X.K g = true) (F : FnR X.prog X.w X.K X.mg X.base CX k g sp) (hr : Room k X.A) (hx : Passes CX X E) (ha : PA X (e :: es) t)
    (hst : starEach (e :: es) X.env = (false, eval e X.env) :: starEach es X.env := by rfl) (hpl : (backTo pos (starEach es X.env)).any (·.1) = false := by rfl)
    (ht : eval (.Call o (e :: es) [] pos) X.env = (do
      callWith pos (← eval o X.env) [] (backTo pos (starEach (e :: es) X.env)) (backToKw pos (keywordEach [] X.env))) := by rfl) :
    PE X (.Call o (e :: es) [] pos) (tOC C sp E ta t) := by
  refine ⟨fun pins s σ H Q I h => ?_⟩
  rw [ht]
  refine wpAny_bind (thn (he.run pins s σ H _ I h) fun u s1 ⟨x, H1, I1, rx, a, ex, q⟩ => ?_)
  subst ex
  obtain rfl : u = Value.ref a := rx
  rw [hst]
  refine oc_with (C := C) (by show ((false || (backTo pos (starEach es X.env)).any (·.1)) || false) = false; rw [hpl]; rfl) (PySem.Calls.evalArgs_plain ?_)
  have z := ha.run pos pins s1 σ H1 _ I1 q
  rw [hst] at z
  refine thn z fun us s2 ⟨vs, H2, I2, r, ⟨dx, fs, ea⟩, q2⟩ => ⟨insA I2 ea, ?_⟩
  obtain ⟨dx', od, J⟩ := insA I2 ea
  exact wpAny_call (PySem.W.kco_code I2.kIn J rfl hm.at_ hm.fn hf (run_fnR (us := .ref a :: us) (vs := .ref a :: vs) F hr hx I2 (.cons rfl r) q2))
def tOCK (C : Addr) (l : Nat) (idx : List Nat) (sp : Sp) (E : XK) (ta : TE) (tk : TA) : TE := fun σ H Q => ta σ H fun x H1 => ∃ a, x = .ref a ∧ tk σ H1 fun zs H2 => (∃ dx fs, H2 a = some (.ins C dx fs)) ∧ zs.length = l ∧ sp (permL idx [x] zs) H2 Q E
theorem pe_ocK (he : PE X o ta) (hm : Meth X.K C "__call__" g) (hf : PySem.W.fnIn X.K g = true) (F : FnRK X.prog X.w X.K X.mg X.base CX k g 1 ks idx sp) (hr : Room k X.A) (hx : Passes CX X E) (hkw : PK X kws tk)
    (hall : (backToKw pos (keywordEach kws X.env)).all (·.1.isSome) = true := by rfl) (hks : (backToKw pos (keywordEach kws X.env)).filterMap (·.1) = ks := by rfl)
    (hpl : ((backTo pos (starEach [] X.env)).any (·.1) || (backToKw pos (keywordEach kws X.env)).any (·.1.isNone)) = false := by rfl)
    (ht : eval (.Call o [] kws pos) X.env = (do
      callWith pos (← eval o X.env) [] (backTo pos (starEach [] X.env)) (backToKw pos (keywordEach kws X.env))) := by rfl) :
    PE X (.Call o [] kws pos) (tOCK C ks.length idx sp E ta tk) := by
  refine ⟨fun pins s σ H Q I h => ?_⟩
  rw [ht]
  refine wpAny_bind (thn (he.run pins s σ H _ I h) fun u s1 ⟨x, H1, I1, rx, a, ex, q⟩ => ?_)
  subst ex
  obtain rfl : u = Value.ref a := rx
  refine oc_with (C := C) hpl (PyProof.Rows.evalArgs_kw2_nil hall (thn (hkw.run pos pins s1 σ H1 _ I1 q) fun ws s2 ⟨zs, H2, I2, rz, ⟨dx, fs, ea⟩, l2, q2⟩ => ⟨insA I2 ea, ?_⟩))
  obtain ⟨dx', od, J⟩ := insA I2 ea
  dsimp only
  rw [hks]
  exact wpAny_call (PySem.W.kco_code I2.kIn J rfl hm.at_ hm.fn hf (run_fnRK (us := [.ref a]) (vs := [.ref a]) F hr hx I2 (.cons rfl .nil) rz rfl l2 q2))
/-! by functions -/
def xOc (cn : Str) (g : FF) (fo : FE) (fa : FA) : FE := fun e ms => (fo e ms).bind fun d e ms => if insIs cn "" d then (fa e ms).bind fun ds e ms => (g (d :: ds) ms).atE e else .no
theorem ee_oc (hm : X.mg cn = some (.ref C)) (hM : Meth X.K C "__call__" g) (hf : PySem.W.fnIn X.K g = true) (F : FDX X k g f) (hr : Room k X.A) (hx : PX X Wx E) (ho : EE X c Wx o fo) (ha : EA X c Wx (e :: es) fa)
    (hst : starEach (e :: es) X.env = (false, eval e X.env) :: starEach es X.env := by rfl) (hpl : (backTo pos (starEach es X.env)).any (·.1) = false := by rfl)
    (ht : eval (.Call o (e :: es) [] pos) X.env = (do
      callWith pos (← eval o X.env) [] (backTo pos (starEach (e :: es) X.env)) (backToKw pos (keywordEach [] X.env))) := by rfl) :
    EE X c Wx (.Call o (e :: es) [] pos) (xOc cn f fo fa) :=
  (pe_oc ho hM hf F hr hx.1 ha hst hpl ht).impQ fun σ H Q ⟨W, o, e, ms, M, h⟩ => ⟨W, o, e, ms, M, (Post.bind (Rp := Rep X.K X.mg) h).mono fun v H1 ⟨W1, o1, e1, m1, d1, u1, M1, r1, h1⟩ => by
    split at h1
    · rename_i hi
      obtain ⟨a, dx, fs, rfl, hH, hl⟩ := insIs_rep M1 hi hm r1
      refine ⟨a, rfl, W1, o1, e1, m1, M1, (Post.bind (Rp := Reps X.K X.mg) h1).mono fun vs H2 ⟨W2, o2, e2, m2, ds, u2, M2, r2, h2⟩ => ⟨?_, spD_of (ds := d1 :: ds) M2 ⟨_, _, rfl, r1.up u2, r2⟩ (fun cls d H => hx.2 cls d σ H) h2⟩⟩
      obtain ⟨a', dx', fs', ex, hH', _⟩ := insIs_rep M2 hi hm (r1.up u2)
      cases ex
      exact ⟨dx', fs', hH'⟩
    · exact h1.elim⟩
def xOcK (cn : Str) (n : Nat) (idx : List Nat) (g : FF) (fo : FE) (fk : FA) : FE := fun e ms => (fo e ms).bind fun d e ms => if insIs cn "" d then (fk e ms).bind fun ds e ms => if ds.length = n then (g (permL idx [d] ds) ms).atE e else .no else .no
theorem ee_ocK (hm : X.mg cn = some (.ref C)) (hM : Meth X.K C "__call__" g) (hf : PySem.W.fnIn X.K g = true) (F : FnRK X.prog X.w X.K X.mg X.base (L2.CX X.prog X.w) k g 1 ks idx (spD X.K X.mg f)) (hr : Room k X.A) (hx : PX X Wx E) (ho : EE X c Wx o fo) (hkw : EK X c Wx kws fk)
    (hall : (backToKw pos (keywordEach kws X.env)).all (·.1.isSome) = true := by rfl) (hks : (backToKw pos (keywordEach kws X.env)).filterMap (·.1) = ks := by rfl)
    (hpl : ((backTo pos (starEach [] X.env)).any (·.1) || (backToKw pos (keywordEach kws X.env)).any (·.1.isNone)) = false := by rfl)
    (ht : eval (.Call o [] kws pos) X.env = (do
      callWith pos (← eval o X.env) [] (backTo pos (starEach [] X.env)) (backToKw pos (keywordEach kws X.env))) := by rfl) :
    EE X c Wx (.Call o [] kws pos) (xOcK cn ks.length idx f fo fk) :=
  (pe_ocK ho hM hf F hr hx.1 hkw hall hks hpl ht).impQ fun σ H Q ⟨W, o, e, ms, M, h⟩ => ⟨W, o, e, ms, M, (Post.bind (Rp := Rep X.K X.mg) h).mono fun v H1 ⟨W1, o1, e1, m1, d1, u1, M1, r1, h1⟩ => by
    split at h1
    · rename_i hi
      obtain ⟨a, dx, fs, rfl, hH, hl⟩ := insIs_rep M1 hi hm r1
      refine ⟨a, rfl, ?_⟩
      show tA X.K X.mg c Wx fk σ H1 _
      refine ⟨W1, o1, e1, m1, M1, (Post.bind (Rp := Reps X.K X.mg) h1).mono fun vs H2 ⟨W2, o2, e2, m2, ds, u2, M2, r2, h2⟩ => ?_⟩
      split at h2
      · rename_i hn
        refine ⟨?_, by rw [← r2.len]; exact hn, spD_of M2 (Reps.perm (Reps.one (r1.up u2)) r2 idx) (fun cls d H => hx.2 cls d σ H) h2⟩
        obtain ⟨a', dx', fs', ex, hH', _⟩ := insIs_rep M2 hi hm (r1.up u2)
        cases ex
        exact ⟨dx', fs', hH'⟩
      · exact h2.elim
    · exact h1.elim⟩
end
end Qd
end
section
set_option Elab.async false
set_option linter.all false
set_option autoImplicit false
set_option maxRecDepth 100000

/-! An instance's own operators: ==, !=, +, -, in, len, [], str, repr. -/
namespace Qd
open PySem PySem.Spec PyProof.Rows L2

section
variable {prog : Program} {w : World} {A : Around} {E : Value → Shared → Prop} {s : Shared} {K : PySem.W.Frag} {x C L f : Addr} {h₀ : Heap} {m : Str → Option Value} {ox : Obj} {od : Option Obj} {b tb : Value}
theorem ob_bound {name : Str} {id : String} {args : List Value} {Q : Option Value → Shared → Prop} (X : K.In s.heap) (I : PySem.W.InstAt s.heap x ox C od) (hs : PySem.W.findIn K (.ref C) name = some (some (.builtin id)))
    (hb : ∀ self, bindSpecial (.builtin id) self = pure (.builtin id, [self])) (h : wpAny (model prog w) A (call (.builtin id) (.ref x :: args)) (fun v => Q (some v)) E s) : wpAny (model prog w) A (callSpecialIfBound? (.ref x) name args) Q E s := by
  simp only [callSpecialIfBound?, bindSpecialIfBound?]
  refine wpAny_holding (wpAny_bind (wpAny_bind (wpAny_bind (I.type.here ((PySem.W.looks_findIn X hs).here ?_)))))
  refine wpAny_bind (wpAny_askSetting (wpAny_ite ?_))
  have fin : wpAny (model prog w) A (call (.builtin id) ([.ref x] ++ args) >>= fun v => pure (some v)) Q E s := wpAny_bind (wpAny_mono h (fun v s' h' => wpAny_pure h') fun _ _ h' => h')
  split
  · exact wpAny_bind ((PySem.W.Looks.of_pure (hb _)).here (wpAny_pure (by exact fin)))
  · exact wpAny_tryCatch (wpAny_bind ((PySem.W.Looks.of_pure (hb _)).here (wpAny_pure (by exact fin))))
theorem one_ne {Q : Value → Shared → Prop} (hu : A.in1.units < cLine) (X : K.In s.heap) (I : PySem.W.InstAt s.heap x ox C od)
    (hn : PySem.W.findIn K (.ref C) "__ne__" = some (some (.builtin "object.__ne__"))) (hm : PySem.W.mroIn K C (.type "object") = some true)
    (hs : PySem.W.findIn K (.ref C) "__eq__" = some (some (.ref f))) (hf : PySem.W.isFn K (.ref f) = true)
    (h : wpAny (model prog w) A.in1 (call (.ref f) [.ref x, b]) (fun v s' => ∃ k, v = .bool k ∧ Q (.bool (!k)) s') E s) : wpAny (model prog w) A (tryCompare (.ref x) "__ne__" b) (fun r s' => ∃ v, r = some v ∧ Q v s') E s := by
  unfold tryCompare
  refine wpAny_bind (ob_bound X I hn PySem.F.cmp_object.ne.bind (wpAny_call (codeAny_call_builtin PySem.F.cmp_object.ne.plain PySem.F.cmpEntry_ne (PySem.W.check_slot (i := "object.__ne__") (owner := "object") (n := "__ne__") (by decide +kernel) (by decide +kernel) (I.type.andThen (PySem.W.looks_mroIn X hm)) (PySem.F.cmpArgs_ne _ _) ?_))))
  unfold Builtin.«object.__ne__»
  refine wpAny_bind (wpAny_pure ?_)
  refine wpAny_bind (wpAny_cRoomFor hu ?_)
  refine wpAny_bind (PySem.W.ifBound_K X I hs hf (wpAny_mono h (fun v s' hv => ?_) fun _ _ e => e))
  obtain ⟨k, rfl, q⟩ := hv
  refine wpAny_bind (m := truthy _) (wpAny_pure ?_)
  exact wpAny_pure (wpAny_pure ⟨_, rfl, q⟩)
theorem cmp_ne {Q : Value → Shared → Prop} (hu : A.in1.units < cLine) (hu0 : A.units < cLine) (X : K.In s.heap) (I : PySem.W.InstAt s.heap x ox C od) (hb : PySem.W.Looks (model prog w) s.heap (typeOf b) tb) (hnf : PySem.W.notFirst K C tb = true)
    (hn : PySem.W.findIn K (.ref C) "__ne__" = some (some (.builtin "object.__ne__"))) (hm : PySem.W.mroIn K C (.type "object") = some true)
    (hs : PySem.W.findIn K (.ref C) "__eq__" = some (some (.ref f))) (hf : PySem.W.isFn K (.ref f) = true)
    (h : wpAny (model prog w) A.in1 (call (.ref f) [.ref x, b]) (fun v s' => ∃ k, v = .bool k ∧ Q (.bool (!k)) s') E s) : wpAny (model prog w) A (richCompare .NotEq (.ref x) b) Q E s := by
  have one := one_ne hu X I hn hm hs hf h
  unfold richCompare
  simp only [oneThing_ref]
  refine wpAny_holding (wpAny_bind (wpAny_cRoomFor hu0 ?_))
  refine wpAny_bind (I.type.here (wpAny_bind (hb.here ?_)))
  split
  · rename_i q
    have e : PySem.W.subIn K tb (.ref C) = some false := by
      rcases Bool.or_eq_true_iff.mp hnf with e | e
      · rw [beq_iff_eq.mp e] at q; simp at q
      · exact beq_iff_eq.mp e
    refine wpAny_bind ((PySem.W.looks_subIn X e).here ?_)
    simp only [Bool.false_eq_true, if_false]
    refine wpAny_bind (wpAny_mono one (fun r s' z => ?_) fun _ _ e => e)
    obtain ⟨v, rfl, hq⟩ := z
    exact wpAny_pure hq
  · refine wpAny_bind (wpAny_pure ?_)
    simp only [Bool.false_eq_true, if_false]
    refine wpAny_bind (wpAny_mono one (fun r s' z => ?_) fun _ _ e => e)
    obtain ⟨v, rfl, hq⟩ := z
    exact wpAny_pure hq
end

/-! ### what stands on the other side -/
/-- data of a built-in type, whole -/
def tyE : D → Option String
  | .non => some "NoneType"
  | .bl _ => some "bool"
  | .int _ => some "int"
  | .str _ => some "str"
  | .tup _ => some "tuple"
  | .lst _ => some "list"
  | .scr _ => some "list"
  | .dic _ _ => some "dict"
  | _ => none
section
variable {X : Cx} {CX : CXT} {c : C0} {Wx : WX} {E : XK} {k n : Nat} {g C : Addr} {sp : Sp} {f : FF} {cn : Str} {pos : Pos} {e o a b : Expr} {fa fb fo : FE}
theorem tyE_rep {W : Wd} {o : Nat → Option Addr} {σ : L2.St} {H : Hp} {e : Env} {m : MS} {d : D} {v : V} {T : String} (M : Mt X.K X.mg c W o σ H e m) (r : Rep X.K X.mg W d v) (h : tyE d = some T) : TyX X.K H v (.type T) := by
  cases d with
  | non => cases h; cases r; exact .base .non
  | bl b => cases h; cases r; exact .base (.bl _)
  | int b => cases h; cases r; exact .base (.int _)
  | str b => cases h; cases r.1; exact .base (.str _)
  | tup l =>
    cases h
    obtain ⟨a, vs, rfl, hp, _⟩ := r
    exact .base (.tup (M.sub _ _ hp))
  | lst l =>
    cases h
    obtain ⟨a, vs, rfl, hp, _⟩ := r
    exact .base (.lst (M.sub _ _ hp))
  | scr l =>
    cases h
    obtain ⟨a, rfl, hp, _⟩ := r
    rcases sql_up M.sub hp with (h1 | ⟨ob, h1⟩) | h1
    · exact .base (.lst h1)
    · exact .base (.frz h1)
    · obtain ⟨_, _, _, hk, hc, _⟩ := h1
      exact .kList hk hc
  | dic ks vs =>
    cases h
    obtain ⟨a, kvs, rfl, hp, _⟩ := r
    rcases rd_up M.sub hp with h1 | ⟨ob, h1⟩
    · exact .base (.dK h1)
    · exact .fDict h1
  | _ => cases h
/-- own classes whose instances may stand on the other side -/
inductive NF (K : PySem.W.Frag) (mg : Str → Option Value) (C : Addr) : List Str → Prop where
  | nil : NF K mg C []
  | cons {x : Str} {C' : Addr} {xs : List Str} (h : mg x = some (.ref C')) (k : PySem.W.notFirst K C (.ref C') = true) (r : NF K mg C xs) : NF K mg C (x :: xs)
  | gone {x : Str} {xs : List Str} (h : mg x = none) (r : NF K mg C xs) : NF K mg C (x :: xs)
theorem NF.get {K : PySem.W.Frag} {mg : Str → Option Value} {C : Addr} : ∀ {cs : List Str} {x : Str}, NF K mg C cs → x ∈ cs → mg x = none ∨ ∃ C', mg x = some (.ref C') ∧ PySem.W.notFirst K C (.ref C') = true
  | _, _, .cons h k r, hx => by
    rcases List.mem_cons.mp hx with rfl | hx
    · exact .inr ⟨_, h, k⟩
    · exact r.get hx
  | _, _, .gone h r, hx => by
    rcases List.mem_cons.mp hx with rfl | hx
    · exact .inl h
    · exact r.get hx
def othOk (cs : List Str) (d : D) : Bool := match d with
  | .ins c' _ _ => decide (c' ∈ cs)
  | d => (tyE d).isSome
theorem nf_type (K : PySem.W.Frag) (C : Addr) {t : String} (h : (PySem.fastFind? t).isSome = true) : PySem.W.notFirst K C (.type t) = true := by
  obtain ⟨l, h1⟩ := Option.isSome_iff_exists.mp h
  unfold PySem.W.notFirst PySem.W.subIn PySem.fastBuiltinMro
  simp [h1]
def Oth (X : Cx) (C : Addr) (H : Hp) (y : V) : Prop := (∃ T, TyX X.K H y (.type T) ∧ PySem.W.notFirst X.K C (.type T) = true) ∨ ∃ b C' dx fs, y = .ref b ∧ H b = some (.ins C' dx fs) ∧ PySem.W.notFirst X.K C (.ref C') = true
theorem oth_rep {W : Wd} {o : Nat → Option Addr} {σ : L2.St} {H : Hp} {e : Env} {m : MS} {d : D} {v : V} {cs : List Str} (N : NF X.K X.mg C cs) (M : Mt X.K X.mg c W o σ H e m) (r : Rep X.K X.mg W d v) (h : othOk cs d = true) : Oth X C H v := by
  cases d with
  | ins c' ns vs =>
    obtain ⟨a, C2, dx, vs', rfl, hC, hp, _⟩ := r
    rcases N.get (of_decide_eq_true h) with h1 | ⟨C', h1, h2⟩
    · rw [h1] at hC
      cases hC
    rw [h1] at hC
    cases hC
    exact .inr ⟨a, _, dx, _, rfl, M.sub _ _ hp, h2⟩
  | non => exact .inl ⟨_, tyE_rep M r rfl, nf_type _ _ (by decide +kernel)⟩
  | bl _ => exact .inl ⟨_, tyE_rep M r rfl, nf_type _ _ (by decide +kernel)⟩
  | int _ => exact .inl ⟨_, tyE_rep M r rfl, nf_type _ _ (by decide +kernel)⟩
  | str _ => exact .inl ⟨_, tyE_rep M r rfl, nf_type _ _ (by decide +kernel)⟩
  | tup _ => exact .inl ⟨_, tyE_rep M r rfl, nf_type _ _ (by decide +kernel)⟩
  | lst _ => exact .inl ⟨_, tyE_rep M r rfl, nf_type _ _ (by decide +kernel)⟩
  | scr _ => exact .inl ⟨_, tyE_rep M r rfl, nf_type _ _ (by decide +kernel)⟩
  | dic _ _ => exact .inl ⟨_, tyE_rep M r rfl, nf_type _ _ (by decide +kernel)⟩
  | _ => cases h

theorem oth_looks {pins : List (Addr × Obj)} {σ : L2.St} {H : Hp} {s : Shared} {y : V} {u : Value} (I : Inv X pins σ H s) (r : RelV y u) (h : Oth X C H y) : ∃ tb, PySem.W.Looks (model X.prog X.w) s.heap (typeOf u) tb ∧ PySem.W.notFirst X.K C tb = true := by
  rcases h with ⟨T, h1, h2⟩ | ⟨b, C', dx, fs, rfl, h1, h2⟩
  · obtain ⟨P, Z, p, _⟩ := kit_of I r h1
    exact ⟨_, Z.ty _ _ I.kIn p, h2⟩
  · cases (show u = Value.ref b from r)
    obtain ⟨mA, J, _⟩ := ins_get I.hok h1
    obtain ⟨od, J, _⟩ := J.look
    exact ⟨_, J.type, h2⟩
/-! ### == and != -/
def rOwnC (X : Cx) (C : Addr) (sp : Sp) (E : XK) : R2 := fun x y H Q => ∃ a dx fs, x = .ref a ∧ H a = some (.ins C dx fs) ∧ Oth X C H y ∧ sp [x, y] H Q E
theorem op_ownEq (hM : Meth X.K C "__eq__" g) (F : FnR X.prog X.w X.K X.mg X.base CX n g sp) (hr : Room n X.A) (hx : Passes CX X E) : OpR X (compareOp .Eq) (rOwnC X C sp E) := by
  intro pins s σ H x y v u Q I rx ry h
  obtain ⟨a, dx, fs, rfl, ha, hb, q⟩ := h
  cases (show v = Value.ref a from rx)
  obtain ⟨mA, J, _⟩ := ins_get I.hok ha
  obtain ⟨od, J, _⟩ := J.look
  obtain ⟨tb, L, hn⟩ := oth_looks I ry hb
  obtain ⟨m, hF⟩ := I.fr
  refine PySem.W.cmp_K (op := .Eq) (tb := tb) hr.units0 hF I.ok.mod.kin J L hn hM.at_ hM.fn ?_
  refine wpAny_mono (wpAny_call (run_fnR (us := [.ref a, u]) (vs := [.ref a, y]) F hr hx I (.cons rfl (.cons ry .nil)) q)) (fun w s' z => ?_) fun _ _ x => x
  obtain ⟨z', H', I', rz, qz⟩ := z
  exact SlX.cmpback rz ⟨z', H', I', rz, qz⟩
structure NeOf (K : PySem.W.Frag) (C : Addr) : Prop where
  ne : PySem.W.findIn K (.ref C) "__ne__" = some (some (.builtin "object.__ne__"))
  mo : PySem.W.mroIn K C (.type "object") = some true
theorem op_ownNe (hM : Meth X.K C "__eq__" g) (hN : NeOf X.K C) (F : FnR X.prog X.w X.K X.mg X.base CX n g sp) (hr : Room (n + 1) X.A) (hx : Passes CX X E) : OpR X (compareOp .NotEq) (rOwnC X C (fun vs H Q E => sp vs H (fun v H' => ∃ k, v = .bl k ∧ Q (.bl (!k)) H') E) E) := by
  intro pins s σ H x y v u Q I rx ry h
  obtain ⟨a, dx, fs, rfl, ha, hb, q⟩ := h
  cases (show v = Value.ref a from rx)
  obtain ⟨mA, J, _⟩ := ins_get I.hok ha
  obtain ⟨od, J, _⟩ := J.look
  obtain ⟨tb, L, hn⟩ := oth_looks I ry hb
  refine cmp_ne (tb := tb) hr.in1.units0 hr.units0 I.kIn J L hn hN.ne hN.mo hM.at_ hM.fn ?_
  refine wpAny_mono (wpAny_call (SlX.run_at (us := [.ref a, u]) (ws := [.ref a, y]) F hr.in1 I.env0.in1 hx I (.cons rfl (.cons ry .nil)) q)) (fun w s' z => ?_) fun _ _ x => x
  obtain ⟨z', H', I', rz, k, rfl, qz⟩ := z
  cases (show w = Value.bool k from rz)
  exact ⟨k, rfl, .bl (!k), H', I', rfl, qz⟩

/-! ### - and + -/
def rOwnU (X : Cx) (C : Addr) (sp : Sp) (E : XK) : V → Hp → VK → Prop := fun x H Q => ∃ a dx fs, x = .ref a ∧ H a = some (.ins C dx fs) ∧ sp [x] H Q E
theorem un_ownNeg (hM : Meth X.K C "__neg__" g) (F : FnR X.prog X.w X.K X.mg X.base CX n g sp) (hr : Room n X.A) (hx : Passes CX X E) : UnR X (unaryOp .USub) (rOwnU X C sp E) := by
  intro pins s σ H x v Q I rx h
  obtain ⟨a, dx, fs, rfl, ha, q⟩ := h
  cases (show v = Value.ref a from rx)
  obtain ⟨mA, J, _⟩ := ins_get I.hok ha
  obtain ⟨od, J, _⟩ := J.look
  obtain ⟨m, hF⟩ := I.fr
  exact PySem.W.ksp_neg hF I.ok.mod.kin J hM.at_ hM.fn (wpAny_call (run_fnR (us := [.ref a]) (vs := [.ref a]) F hr hx I (.cons rfl .nil) q))
/-- op's reflected name is no attribute of the class; the class stands first in its own row -/
structure BinOf (K : PySem.W.Frag) (C : Addr) (op : Operator) : Prop where
  sf : PySem.W.selfFirst K C = true
  no : PySem.W.findIn K (.ref C) (dunderR op.info.2) = some none
theorem op_ownBin {op : Operator} (hM : Meth X.K C (PySem.dunder op.info.2) g) (hB : BinOf X.K C op) (F : FnR X.prog X.w X.K X.mg X.base CX n g sp) (hr : Room n X.A) (hx : Passes CX X E) : OpR X (binaryOp op) (fun x y H Q => ∃ a dx fs b dy gs, x = .ref a ∧ H a = some (.ins C dx fs) ∧ y = .ref b ∧ H b = some (.ins C dy gs) ∧ sp [x, y] H Q E) := by
  intro pins s σ H x y v u Q I rx ry h
  obtain ⟨a, dx, fs, b, dy, gs, rfl, ha, rfl, hb, q⟩ := h
  cases (show v = Value.ref a from rx)
  cases (show u = Value.ref b from ry)
  obtain ⟨mA, J, _⟩ := ins_get I.hok ha
  obtain ⟨od, J, _⟩ := J.look
  obtain ⟨mB, J', _⟩ := ins_get I.hok hb
  obtain ⟨od', J', _⟩ := J'.look
  obtain ⟨m, hF⟩ := I.fr
  refine PySem.W.binop_K hF I.ok.mod.kin J J'.type hB.sf hM.at_ hM.fn ?_
  refine wpAny_mono (wpAny_call (run_fnR (us := [.ref a, .ref b]) (vs := [.ref a, .ref b]) F hr hx I (.cons rfl (.cons rfl .nil)) q)) (fun w s' z => ?_) fun _ _ x => x
  obtain ⟨z', H', I', rz, qz⟩ := z
  exact SlX.cmpback rz ⟨z', H', I', rz, qz⟩
/-! ### len, [], in -/
def rOwnL (X : Cx) (C : Addr) (sp : Sp) (E : XK) : List V → Hp → VK → Prop := fun xs H Q => ∃ a dx fs, xs = [.ref a] ∧ H a = some (.ins C dx fs) ∧ sp [.ref a] H (fun v H' => ∃ k : Int, v = .int k ∧ (0 ≤ k ∧ k < 2 ^ 63) ∧ Q v H') E
theorem call_ownLen (hM : Meth X.K C "__len__" g) (F : FnR X.prog X.w X.K X.mg X.base CX n g sp) (hr : Room (n + 1) X.A) (hx : Passes CX X E) : CallR X (.builtin "len") (rOwnL X C sp E) := by
  intro pins s σ H xs us Q I r h
  obtain ⟨a, dx, fs, rfl, ha, q⟩ := h
  obtain ⟨u, rfl, ru⟩ := r.one
  cases (show u = Value.ref a from ru)
  obtain ⟨mA, J, _⟩ := ins_get I.hok ha
  obtain ⟨od, J, _⟩ := J.look
  obtain ⟨m, hF⟩ := I.fr
  refine PySem.W.len_K hF I.ok.mod.kin J hM.at_ hM.fn (wpAny_mono (wpAny_call (SlX.run_at (us := [.ref a]) (ws := [.ref a]) F hr.in1 I.env0.in1 hx I (.cons rfl .nil) q)) (fun w s' z => ?_) fun _ _ x => x)
  obtain ⟨z', H', I', rz, k, rfl, hk, qz⟩ := z
  obtain ⟨t, rfl⟩ := (show ∃ t, w = Value.int k t from rz)
  exact ⟨hk, .int k, H', I'.tok _, ⟨_, rfl⟩, qz⟩
def rOwnI (X : Cx) (C : Addr) (sp : Sp) (E : XK) : R2 := fun x y H Q => ∃ a dx fs, x = .ref a ∧ H a = some (.ins C dx fs) ∧ sp [x, y] H Q E
theorem pe_ownIx {ta tb : TE} (hM : Meth X.K C "__getitem__" g) (hfn : PySem.W.fnIn X.K g = true) (F : FnR X.prog X.w X.K X.mg X.base CX n g sp) (hr : Room (n + 1) X.A) (hx : Passes CX X E) (ha : PE X a ta) (hb : PE X b tb)
    (hsl : ∀ x i, subscripted b true (.ref x) i = runValue (.builtin "lifetime.subscript" ⟨[.ref x, i], []⟩)) : PE X (.Subscript a b pos) (tOp (rOwnI X C sp E) ta tb) := by
  refine ⟨fun pins s σ H Q I h => ?_⟩
  refine Subscript_ (binT ha hb I h fun v u s2 x y H2 I2 rx ry q => ?_)
  obtain ⟨a, dx, fs, rfl, ha, q⟩ := q
  cases (show v = Value.ref a from rx)
  obtain ⟨mA, J, _⟩ := ins_get I2.hok ha
  obtain ⟨od, J, _⟩ := J.look
  obtain ⟨m, hF⟩ := I2.fr
  exact PySem.W.sub_K hF I2.ok.mod.kin J hM.at_ hfn hM.fn (wpAny_call (SlX.run_at (us := [.ref a, u]) (ws := [.ref a, y]) F hr.in1 I2.env0.in1 hx I2 (.cons rfl (.cons ry .nil)) q)) (hsl a u)
def rOwnIn (X : Cx) (C : Addr) (neg : Bool) (sp : Sp) (E : XK) : R2 := fun x y H Q => ∃ a dx fs, y = .ref a ∧ H a = some (.ins C dx fs) ∧ sp [y, x] H (fun v H' => ∃ k, v = .bl k ∧ Q (.bl (if neg then !k else k)) H') E
theorem op_ownIn (hM : Meth X.K C "__contains__" g) (F : FnR X.prog X.w X.K X.mg X.base CX n g sp) (hr : Room n X.A) (hx : Passes CX X E) : OpR X (compareOp .In) (rOwnIn X C false sp E) := by
  intro pins s σ H x y v u Q I rx ry h
  obtain ⟨a, dx, fs, rfl, ha, q⟩ := h
  cases (show u = Value.ref a from ry)
  obtain ⟨mA, J, _⟩ := ins_get I.hok ha
  obtain ⟨od, J, _⟩ := J.look
  obtain ⟨m, hF⟩ := I.fr
  refine PySem.W.in_K hF I.ok.mod.kin J hM.at_ hM.fn (wpAny_mono (wpAny_call (run_fnR (us := [.ref a, v]) (vs := [.ref a, x]) F hr hx I (.cons rfl (.cons rx .nil)) q)) (fun w s' z => ?_) fun _ _ x => x)
  obtain ⟨z', H', I', rz, k, rfl, qz⟩ := z
  cases (show w = Value.bool k from rz)
  exact wpAny_pure ⟨.bl k, H', I', rfl, qz⟩
theorem op_ownNi (hM : Meth X.K C "__contains__" g) (F : FnR X.prog X.w X.K X.mg X.base CX n g sp) (hr : Room n X.A) (hx : Passes CX X E) : OpR X (compareOp .NotIn) (rOwnIn X C true sp E) := by
  intro pins s σ H x y v u Q I rx ry h
  obtain ⟨a, dx, fs, rfl, ha, q⟩ := h
  cases (show u = Value.ref a from ry)
  obtain ⟨mA, J, _⟩ := ins_get I.hok ha
  obtain ⟨od, J, _⟩ := J.look
  obtain ⟨m, hF⟩ := I.fr
  refine PySem.W.notIn_K hF I.ok.mod.kin J hM.at_ hM.fn (wpAny_mono (wpAny_call (run_fnR (us := [.ref a, v]) (vs := [.ref a, x]) F hr hx I (.cons rfl (.cons rx .nil)) q)) (fun w s' z => ?_) fun _ _ x => x)
  obtain ⟨z', H', I', rz, k, rfl, qz⟩ := z
  cases (show w = Value.bool k from rz)
  exact wpAny_pure ⟨.bl (!k), H', I', rfl, qz⟩
end
end Qd
end
section
set_option Elab.async false
set_option linter.all false
set_option autoImplicit false
set_option maxRecDepth 100000

/-! .. by functions. -/
namespace Qd
open PySem PySem.Spec PyProof.Rows L2
def mapD (g : D → Option D) (r : R D) : R D := r.bind fun d e m => fin (g d) e m
@[simp] theorem mapD_ok (g : D → Option D) (d : D) (e : Env) (m : MS) : mapD g (.ok d e m) = fin (g d) e m := rfl
@[simp] theorem mapD_ex (g : D → Option D) (n : Str) (ns : List Str) (vs : List D) (e : Env) (m : MS) : mapD g (.ex n ns vs e m) = .ex n ns vs e m := rfl
@[simp] theorem mapD_no (g : D → Option D) : mapD g .no = .no := rfl
def idB : D → Option D
  | .bl k => some (.bl k)
  | _ => none
def lnB : D → Option D
  | .int k => if 0 ≤ k ∧ k ≤ 9223372036854775807 then some (.int k) else none
  | _ => none
@[simp] theorem idB_bl (k : Bool) : idB (.bl k) = some (.bl k) := rfl
@[simp] theorem lnB_int (k : Int) : lnB (.int k) = if 0 ≤ k ∧ k ≤ 9223372036854775807 then some (.int k) else none := rfl
def vNt' : D → Option D
  | .bl k => some (.bl (!k))
  | _ => none
@[simp] theorem vNt'_bl (k : Bool) : vNt' (.bl k) = some (.bl (!k)) := rfl
/-- x == y, x an instance of cn -/
def ownG (cn : Str) (cs : List Str) (f : FF) : D → D → Env → MS → R D := fun x y e m => if insIs cn "" x && othOk cs y then (f [x, y] m).atE e else .no
def ownNG (cn : Str) (cs : List Str) (f : FF) : D → D → Env → MS → R D := fun x y e m => if insIs cn "" x && othOk cs y then mapD vNt' ((f [x, y] m).atE e) else .no
/-- x + y, both of cn -/
def ownB (cn : Str) (f : FF) : D → D → Env → MS → R D := fun x y e m => if insIs cn "" x && insIs cn "" y then (f [x, y] m).atE e else .no
def ownU (cn : Str) (f : FF) : D → Env → MS → R D := fun x e m => if insIs cn "" x then (f [x] m).atE e else .no
def ownL1 (cn : Str) (f : FF) : List D → Env → MS → R D := fun xs e m => match xs with
  | [x] => if insIs cn "" x then mapD lnB ((f [x] m).atE e) else .no
  | _ => .no
def ownI (cn : Str) (f : FF) : D → D → Env → MS → R D := fun x y e m => if insIs cn "" x then (f [x, y] m).atE e else .no
def ownIn (neg : Bool) (cn : Str) (f : FF) : D → D → Env → MS → R D := fun x y e m => if insIs cn "" y then mapD (if neg then vNt' else idB) ((f [y, x] m).atE e) else .no
section
variable {X : Cx} {c : C0} {Wx : WX} {E : XK} {k n : Nat} {g C : Addr} {f : FF} {cn : Str} {pos : Pos} {e o a b : Expr} {fa fb fo : FE} {cs : List Str}
theorem Post.mapD {g : D → Option D} {r : R D} {W : Wd} {σ : L2.St} {Q : VK} (h : Post X.K X.mg c W σ (Rep X.K X.mg) Q Wx (mapD g r)) :
    Post X.K X.mg c W σ (Rep X.K X.mg) (fun v H1 => ∃ W1 o1 e1 m1 d d', Up W W1 ∧ Mt X.K X.mg c W1 o1 σ H1 e1 m1 ∧ Rep X.K X.mg W1 d v ∧ g d = some d' ∧ Post X.K X.mg c W1 σ (Rep X.K X.mg) Q Wx (.ok d' e1 m1)) Wx r :=
  (Post.bind (Rp := Rep X.K X.mg) h).mono fun v H1 ⟨W1, o1, e1, m1, d, u1, M1, r1, h1⟩ => by
    obtain ⟨d', hd, h2⟩ := Post.fin h1
    exact ⟨W1, o1, e1, m1, d, d', u1, M1, r1, hd, h2⟩
theorem od_ownEq (hm : X.mg cn = some (.ref C)) (N : NF X.K X.mg C cs) (hx : PX X Wx E) : OpD X c Wx (rOwnC X C (spD X.K X.mg f) E) (ownG cn cs f) := by
  intro W o σ H e m x y vx vy Q M rx ry h
  unfold ownG at h
  split at h
  · rename_i hi
    obtain ⟨h1, h2⟩ := Bool.and_eq_true_iff.mp hi
    obtain ⟨a, dx, fs, rfl, hH, _⟩ := insIs_rep M h1 hm rx
    exact ⟨a, dx, fs, rfl, hH, oth_rep N M ry h2, spD_of (ds := [x, y]) M ⟨_, _, rfl, rx, _, _, rfl, ry, rfl⟩ (fun cls d H => hx.2 cls d σ H) h⟩
  · exact h.elim
theorem od_ownNe (hm : X.mg cn = some (.ref C)) (N : NF X.K X.mg C cs) (hx : PX X Wx E) : OpD X c Wx (rOwnC X C (fun vs H Q E => spD X.K X.mg f vs H (fun v H' => ∃ k, v = .bl k ∧ Q (.bl (!k)) H') E) E) (ownNG cn cs f) := by
  intro W o σ H e m x y vx vy Q M rx ry h
  unfold ownNG at h
  split at h
  · rename_i hi
    obtain ⟨h1, h2⟩ := Bool.and_eq_true_iff.mp hi
    obtain ⟨a, dx, fs, rfl, hH, _⟩ := insIs_rep M h1 hm rx
    refine ⟨a, dx, fs, rfl, hH, oth_rep N M ry h2, spD_of (ds := [x, y]) M ⟨_, _, rfl, rx, _, _, rfl, ry, rfl⟩ (fun cls d H => hx.2 cls d σ H) ((Post.mapD h).mono fun v H1 ⟨W1, o1, e1, m1, d, d', u1, M1, r1, hd, h1⟩ => ?_)⟩
    cases d with
    | bl k =>
      cases hd
      cases (show v = V.bl k from r1)
      exact ⟨k, rfl, Post.here h1 M1 rfl⟩
    | _ => cases hd
  · exact h.elim
theorem ee_ownEq (hm : X.mg cn = some (.ref C)) (N : NF X.K X.mg C cs) (hM : Meth X.K C "__eq__" g) (F : FDX X k g f) (hr : Room k X.A) (hx : PX X Wx E) (ha : EE X c Wx a fa) (hb : EE X c Wx b fb) : EE X c Wx (.Compare a [.Eq] [b] pos) (x2 fa fb (ownG cn cs f)) :=
  ee_cmp (op_ownEq hM F hr hx.1) (od_ownEq hm N hx) ha hb (nobehind _ (by decide) (by decide))
theorem et_ownEq (hm : X.mg cn = some (.ref C)) (N : NF X.K X.mg C cs) (hM : Meth X.K C "__eq__" g) (F : FDX X k g f) (hr : Room k X.A) (hx : PX X Wx E) (ha : EE X c Wx a fa) (hb : EE X c Wx b fb) : ET X c Wx (.Compare a [.Eq] [b] pos) (tOf (x2 fa fb (ownG cn cs f))) :=
  et_cmp (op_ownEq hM F hr hx.1) (od_ownEq hm N hx) ha hb (nobehind _ (by decide) (by decide))
theorem ee_ownNe (hm : X.mg cn = some (.ref C)) (N : NF X.K X.mg C cs) (hM : Meth X.K C "__eq__" g) (hN : NeOf X.K C) (F : FDX X k g f) (hr : Room (k + 1) X.A) (hx : PX X Wx E) (ha : EE X c Wx a fa) (hb : EE X c Wx b fb) : EE X c Wx (.Compare a [.NotEq] [b] pos) (x2 fa fb (ownNG cn cs f)) :=
  ee_cmp (op_ownNe hM hN F hr hx.1) (od_ownNe hm N hx) ha hb (nobehind _ (by decide) (by decide))
theorem et_ownNe (hm : X.mg cn = some (.ref C)) (N : NF X.K X.mg C cs) (hM : Meth X.K C "__eq__" g) (hN : NeOf X.K C) (F : FDX X k g f) (hr : Room (k + 1) X.A) (hx : PX X Wx E) (ha : EE X c Wx a fa) (hb : EE X c Wx b fb) : ET X c Wx (.Compare a [.NotEq] [b] pos) (tOf (x2 fa fb (ownNG cn cs f))) :=
  et_cmp (op_ownNe hM hN F hr hx.1) (od_ownNe hm N hx) ha hb (nobehind _ (by decide) (by decide))
theorem ee_ownNeg (hm : X.mg cn = some (.ref C)) (hM : Meth X.K C "__neg__" g) (F : FDX X k g f) (hr : Room k X.A) (hx : PX X Wx E) (ha : EE X c Wx a fa) : EE X c Wx (.UnaryOp .USub a pos) (x1 fa (ownU cn f)) :=
  ee_un (un_ownNeg hM F hr hx.1) (fun W o σ H e m x vx Q M rx h => by
    unfold ownU at h
    split at h
    · rename_i h1
      obtain ⟨a, dx, fs, rfl, hH, _⟩ := insIs_rep M h1 hm rx
      exact ⟨a, dx, fs, rfl, hH, spD_of (ds := [x]) M ⟨_, _, rfl, rx, rfl⟩ (fun cls d H => hx.2 cls d σ H) h⟩
    · exact h.elim) ha
theorem ee_ownBin {op : Operator} (hm : X.mg cn = some (.ref C)) (hM : Meth X.K C (PySem.dunder op.info.2) g) (hB : BinOf X.K C op) (F : FDX X k g f) (hr : Room k X.A) (hx : PX X Wx E) (ha : EE X c Wx a fa) (hb : EE X c Wx b fb) : EE X c Wx (.BinOp a op b pos) (x2 fa fb (ownB cn f)) :=
  ee_op (op_ownBin hM hB F hr hx.1) (fun W o σ H e m x y vx vy Q M rx ry h => by
    unfold ownB at h
    split at h
    · rename_i hi
      obtain ⟨h1, h2⟩ := Bool.and_eq_true_iff.mp hi
      obtain ⟨a, dx, fs, rfl, hH, _⟩ := insIs_rep M h1 hm rx
      obtain ⟨b, dy, gs, rfl, hH2, _⟩ := insIs_rep M h2 hm ry
      exact ⟨a, dx, fs, b, dy, gs, rfl, hH, rfl, hH2, spD_of (ds := [x, y]) M ⟨_, _, rfl, rx, _, _, rfl, ry, rfl⟩ (fun cls d H => hx.2 cls d σ H) h⟩
    · exact h.elim) ha hb
theorem ee_ownLen {p : Pos} {x1 : Expr} {f' : FA} (hm : X.mg cn = some (.ref C)) (hM : Meth X.K C "__len__" g) (F : FDX X k g f) (hr : Room (k + 1) X.A) (hx : PX X Wx E) (hgl : Gl X "len") (hml : X.mg "len" = none) (ha : EA X c Wx [x1] f') (he : starEach [x1] X.env = (false, eval x1 X.env) :: starEach [] X.env := by rfl) (hpl : (backTo pos (starEach [] X.env)).any (·.1) = false := by rfl) :
    EE X c Wx (.Call (.Name "len" p) [x1] [] pos) (xA f' (ownL1 cn f)) := ee_callB (call_ownLen hM F hr hx.1) PySem.boot_len (fun W o σ H e m xs vs Q M rx h => by
      unfold ownL1 at h
      split at h
      · rename_i x
        split at h
        · rename_i h1
          obtain ⟨v, rfl, r⟩ := rx.one_inv
          obtain ⟨a, dx, fs, rfl, hH, _⟩ := insIs_rep M h1 hm r
          refine ⟨a, dx, fs, rfl, hH, spD_of (ds := [x]) M ⟨_, _, rfl, r, rfl⟩ (fun cls d H => hx.2 cls d σ H) ((Post.mapD h).mono fun v H1 ⟨W1, o1, e1, m1, d, d', u1, M1, r1, hd, h1⟩ => ?_)⟩
          cases d with
          | int k =>
            simp only [lnB] at hd
            split at hd
            · rename_i hk
              cases hd
              cases (show v = V.int k from r1)
              exact ⟨k, rfl, ⟨hk.1, Int.lt_of_le_of_lt hk.2 (by decide)⟩, Post.here h1 M1 rfl⟩
            · cases hd
          | _ => cases hd
        · exact h.elim
      · exact h.elim) hgl hml ha (by decide) (by decide) he hpl
theorem ee_ownIx (hm : X.mg cn = some (.ref C)) (hM : Meth X.K C "__getitem__" g) (hfn : PySem.W.fnIn X.K g = true) (F : FDX X k g f) (hr : Room (k + 1) X.A) (hx : PX X Wx E) (ha : EE X c Wx a fa) (hb : EE X c Wx b fb)
    (hsl : ∀ x i, subscripted b true (.ref x) i = runValue (.builtin "lifetime.subscript" ⟨[.ref x, i], []⟩) := by intro _ _; rfl) : EE X c Wx (.Subscript a b pos) (x2 fa fb (ownI cn f)) :=
  (pe_ownIx hM hfn F hr hx.1 ha hb hsl).impQ fun σ H Q ⟨W, o, e, m, M, h⟩ => ⟨W, o, e, m, M, (Post.bind h).mono fun v H1 ⟨W1, o1, e1, m1, d1, u1, M1, r1, h1⟩ =>
    ⟨W1, o1, e1, m1, M1, (Post.bind h1).mono fun v2 H2 ⟨W2, o2, e2, m2, d2, u2, M2, r2, h2⟩ => by
      unfold ownI at h2
      split at h2
      · rename_i hi
        obtain ⟨a, dx, fs, rfl, hH, _⟩ := insIs_rep M2 hi hm (r1.up u2)
        exact ⟨a, dx, fs, rfl, hH, spD_of (ds := [d1, d2]) M2 ⟨_, _, rfl, r1.up u2, _, _, rfl, r2, rfl⟩ (fun cls d H => hx.2 cls d σ H) h2⟩
      · exact h2.elim⟩⟩
theorem od_ownIn {neg : Bool} (hm : X.mg cn = some (.ref C)) (hx : PX X Wx E) : OpD X c Wx (rOwnIn X C neg (spD X.K X.mg f) E) (ownIn neg cn f) := by
  intro W o σ H e m x y vx vy Q M rx ry h
  unfold ownIn at h
  split at h
  · rename_i hi
    obtain ⟨a, dx, fs, rfl, hH, _⟩ := insIs_rep M hi hm ry
    refine ⟨a, dx, fs, rfl, hH, spD_of (ds := [y, x]) M ⟨_, _, rfl, ry, _, _, rfl, rx, rfl⟩ (fun cls d H => hx.2 cls d σ H) ((Post.mapD h).mono fun v H1 ⟨W1, o1, e1, m1, d, d', u1, M1, r1, hd, h1⟩ => ?_)⟩
    cases neg <;> cases d with
    | bl k =>
      cases hd
      cases (show v = V.bl k from r1)
      exact ⟨k, rfl, Post.here h1 M1 rfl⟩
    | _ => cases hd
  · exact h.elim
theorem ee_ownIn (hm : X.mg cn = some (.ref C)) (hM : Meth X.K C "__contains__" g) (F : FDX X k g f) (hr : Room k X.A) (hx : PX X Wx E) (ha : EE X c Wx a fa) (hb : EE X c Wx b fb) (hb' : behindInMarks .In b = false := by rfl) : EE X c Wx (.Compare a [.In] [b] pos) (x2 fa fb (ownIn false cn f)) :=
  ee_cmp (op_ownIn hM F hr hx.1) (od_ownIn hm hx) ha hb hb'
theorem et_ownIn (hm : X.mg cn = some (.ref C)) (hM : Meth X.K C "__contains__" g) (F : FDX X k g f) (hr : Room k X.A) (hx : PX X Wx E) (ha : EE X c Wx a fa) (hb : EE X c Wx b fb) (hb' : behindInMarks .In b = false := by rfl) : ET X c Wx (.Compare a [.In] [b] pos) (tOf (x2 fa fb (ownIn false cn f))) :=
  et_cmp (op_ownIn hM F hr hx.1) (od_ownIn hm hx) ha hb hb'
theorem ee_ownNi (hm : X.mg cn = some (.ref C)) (hM : Meth X.K C "__contains__" g) (F : FDX X k g f) (hr : Room k X.A) (hx : PX X Wx E) (ha : EE X c Wx a fa) (hb : EE X c Wx b fb) (hb' : behindInMarks .NotIn b = false := by rfl) : EE X c Wx (.Compare a [.NotIn] [b] pos) (x2 fa fb (ownIn true cn f)) :=
  ee_cmp (op_ownNi hM F hr hx.1) (od_ownIn hm hx) ha hb hb'
theorem et_ownNi (hm : X.mg cn = some (.ref C)) (hM : Meth X.K C "__contains__" g) (F : FDX X k g f) (hr : Room k X.A) (hx : PX X Wx E) (ha : EE X c Wx a fa) (hb : EE X c Wx b fb) (hb' : behindInMarks .NotIn b = false := by rfl) : ET X c Wx (.Compare a [.NotIn] [b] pos) (tOf (x2 fa fb (ownIn true cn f))) :=
  et_cmp (op_ownNi hM F hr hx.1) (od_ownIn hm hx) ha hb hb'
end
end Qd
end
section
set_option Elab.async false
set_option linter.all false
set_option autoImplicit false
set_option maxRecDepth 100000

/-! xs[::-1] of tuples and lists; isinstance of own classes; the less told. -/
namespace Qd
open PySem PySem.Spec PyProof.Rows L2
section
variable {prog : Program} {w : World} {A : Around} {E : Value → Shared → Prop} {s : Shared}
theorem part_m1 {v : Value} {Q : Option Int → Shared → Prop} (p : IsPart v (some (-1))) (h : Q (some (-1)) s) : wpAny (model prog w) A (Builtin.Slice.slicePartIndex v) Q E s := HT.slicePart_ p h
theorem fm_some {α β : Type} {f : α → Option β} {g : α → β} : ∀ {l : List α}, (∀ m ∈ l, f m = some (g m)) → l.filterMap f = l.map g
  | [], _ => rfl
  | a :: l, h => by
    rw [List.filterMap_cons, h a List.mem_cons_self, List.map_cons, fm_some fun m hm => h m (List.mem_cons_of_mem _ hm)]
theorem pick_rev (xs : Array Value) : ((List.range xs.size).filterMap fun (m : Nat) => xs[(((xs.size : Int) - 1) + (m : Int) * (-1)).toNat]?).toArray = xs.toList.reverse.toArray := by
  congr 1
  apply List.ext_getElem?
  intro i
  have e : ((List.range xs.size).filterMap fun (m : Nat) => xs[(((xs.size : Int) - 1) + (m : Int) * (-1)).toNat]?) = (List.range xs.size).map fun (m : Nat) => xs.toList.getD (xs.size - 1 - m) .none := by
    refine fm_some fun m hm => ?_
    have hm := List.mem_range.mp hm
    have : (((xs.size : Int) - 1) + (m : Int) * (-1)).toNat = xs.size - 1 - m := by omega
    rw [this, Array.getElem?_eq_getElem (by omega)]
    rw [List.getD_eq_getElem?_getD, List.getElem?_eq_getElem (by simp; omega)]
    simp
  rw [e]
  by_cases hi : i < xs.size
  · rw [List.getElem?_map, List.getElem?_range hi, List.getElem?_reverse (by simpa using hi)]
    simp only [Option.map_some, Array.length_toList]
    rw [List.getD_eq_getElem?_getD, List.getElem?_eq_getElem (by simp; omega)]
    rfl
  · rw [List.getElem?_eq_none (by simpa using hi), List.getElem?_eq_none (by simpa using hi)]
theorem item_tup_rev {t sl : Addr} {items : Array Value} {vl vu vs : Value} {Q : Value → Shared → Prop} (ht : IsTup s.heap t items) (hs : s.heap.IsSliceOf sl vl vu vs) (pl : IsPart vl none) (pu : IsPart vu none) (ps : IsPart vs (some (-1)))
    (h : Q (.ref s.heap.objs.size) { s with heap := s.heap.push { cls := .type "tuple", data := .seq items.toList.reverse.toArray } })
    (hsz : items.size ≤ sizeLine) : wpAny (model prog w) A (getItem (.ref t) (.ref sl)) Q E s := by
  have hok : sizeOk (.seq items.toList.reverse.toArray) := by
    show items.toList.reverse.toArray.size ≤ sizeLine
    simpa using hsz
  obtain ⟨os, hos, hcs, hds⟩ := id hs
  have ty : s.TypeIs (.ref sl) "slice" := ⟨os, hos, hcs⟩
  unfold getItem
  refine wpAny_holding ?_
  first
    | refine wpAny_bind (wpAny_pure ?_)
    | skip
  refine wpAny_bind (wpAny_sequenceKey ht.typeIs (by decide) ?_)
  refine wpAny_bind (wpAny_callSpecial?_slot (name := Str.ofString "__getitem__") ht.typeIs PyProof.Rows.slot_tuple_getitem (wpAny_call_entry PyProof.Rows.slot_tuple_getitem ht.typeIs entry_tuple_getitem ?_ (args_tuple_getitem _ _)))
  show wpAny _ _ (Builtin.Tuple.tupleItemsOf (.ref t) >>= _) _ _ s
  refine wpAny_bind (tupleItemsOf_ ht ?_)
  refine wpAny_bind (wpAny_typeOf ty ?_)
  rw [if_pos (by decide)]
  have ap : ∀ {R : Int × Int × Nat → Shared → Prop}, R ((items.size : Int) - 1, -1, items.size) s → wpAny (model prog w) A.in1 (Builtin.Slice.sliceApplied (.ref sl) (pure (items.size : Int))) R E s := by
    intro R hR
    unfold Builtin.Slice.sliceApplied Builtin.Slice.sliceFields
    refine wpAny_bind (wpAny_bind (wpAny_field hos hds (x := vl) rfl (wpAny_bind (wpAny_field hos hds (x := vu) rfl (wpAny_bind (wpAny_field hos hds (x := vs) rfl (wpAny_pure ?_)))))))
    refine wpAny_bind (part_m1 ps ?_)
    show wpAny _ _ (if ((-1 : Int) == 0) = true then _ else _) _ _ s
    rw [if_neg (by decide)]
    refine wpAny_bind (HT.slicePart_ pl (wpAny_bind (HT.slicePart_ pu (wpAny_bind (wpAny_pure ?_)))))
    show wpAny _ _ (match Builtin.Slice.sliceAdjust none none (-1) (items.size : Int) with | (lo, hi) => pure (lo, (-1 : Int), Builtin.Slice.slicePlaces lo hi (-1))) _ _ s
    have e1 : Builtin.Slice.sliceAdjust none none (-1) (items.size : Int) = ((items.size : Int) - 1, -1) := rfl
    have e2 : Builtin.Slice.slicePlaces ((items.size : Int) - 1) (-1) (-1) = items.size := by
      unfold Builtin.Slice.slicePlaces
      have h1 : ¬ ((-1 : Int) > 0) := by omega
      simp only [h1, if_false]
      split
      · show ((((items.size : Int) - 1) - (-1) - 1) / 1 + 1).toNat = _
        omega
      · omega
    rw [e1]
    show wpAny _ _ (pure ((items.size : Int) - 1, (-1 : Int), Builtin.Slice.slicePlaces ((items.size : Int) - 1) (-1) (-1))) _ _ s
    rw [e2]
    exact wpAny_pure hR
  refine wpAny_bind (ap ?_)
  have hno : ¬ ((((items.size : Int) - 1) == 0 && (-1 : Int) == 1 && items.size == items.size) = true) := by
    intro q
    rw [Bool.and_eq_true, Bool.and_eq_true] at q
    exact absurd q.1.2 (by decide)
  show wpAny _ _ (if (((items.size : Int) - 1) == 0 && (-1 : Int) == 1 && items.size == items.size) = true then _ else _) _ _ s
  rw [if_neg hno, pick_rev]
  first
    | exact wpAny_bind (m := Builtin.Tuple.tupleExact _) (wpAny_newObj_type (wpAny_pure ⟨_, rfl, wpAny_pure h⟩) hok)
    | exact wpAny_bind (m := Builtin.Tuple.tupleExact _) (wpAny_newObj_type (wpAny_bind (wpAny_pure (wpAny_pure ⟨_, rfl, wpAny_pure h⟩))) hok)
    | exact wpAny_bind (wpAny_bind (m := Builtin.Tuple.tupleExact _) (wpAny_newObj_type (wpAny_pure (wpAny_pure ⟨_, rfl, wpAny_pure h⟩)) hok))
    | exact wpAny_bind (wpAny_bind (m := Builtin.Tuple.tupleExact _) (wpAny_newObj_type (wpAny_pure ⟨_, rfl, wpAny_pure h⟩) hok))
end
section
variable {X : Cx} {c : C0} {Wx : WX}
def tRevA (K : PySem.W.Frag) (te : TE) : TE := fun σ H Q => te σ H fun x H1 => ∃ a xs, x = .ref a ∧ ((SqL K H1 a xs ∧ ∀ p, H1 p = none → Q (.ref p) (upd H1 p (.lst xs.reverse))) ∨ (SqT K H1 a xs ∧ ∀ p, H1 p = none → Q (.ref p) (upd H1 p (.tup xs.reverse))))
theorem pe_revA {e : Expr} {te : TE} {k : Nat} {p1 p2 p3 pos : Pos} (he : PE X e te) : PE X (.Subscript e (.Slice none none (some (.UnaryOp .USub (.Constant (.int 1) k p1) p2)) p3) pos) (tRevA X.K te) := by
  refine ⟨fun pins s σ H Q I h => ?_⟩
  refine Subscript_ (thn (he.run pins s σ H _ I h) fun v s1 ⟨x, H1, I1, r1, q1⟩ => ?_)
  obtain ⟨a, xs, ex, q⟩ := q1
  subst ex
  cases r1
  have hst : PO X (some (.UnaryOp .USub (.Constant (.int 1) k p1) p2)) (tPart (tUn (rU fun i => .int (-i)) (tC (.int 1)))) := po_some (pe_un un_neg pe_int)
  refine wpAny_Slice (thn (po_none.run pins s1 σ H1 (fun o H2 => o = none ∧ H2 = H1) I1 ⟨rfl, rfl⟩) fun vl s2 ⟨l, H2, I2, pl, el, e2⟩ => ?_)
  subst el e2
  refine thn (po_none.run pins s2 σ H2 (fun o H3 => o = none ∧ H3 = H2) I2 ⟨rfl, rfl⟩) fun vu s3 ⟨u, H3, I3, pu, eu, e3⟩ => ?_
  subst eu e3
  refine thn (hst.run pins s3 σ H3 (fun o H4 => o = some (-1) ∧ H4 = H3) I3 ⟨1, rfl, -1, rfl, rfl, rfl⟩) fun vs s4 ⟨o, H4, I4, ps, eo, e4⟩ => ?_
  subst eo e4
  have I5 : Inv X pins σ H4 { s4 with heap := s4.heap.push { cls := .type "slice", data := .fields #[vl, vu, vs] } } := I4.kept (t' := s4.toks) fun b ob q => Heap.get?_push_of_some _ q
  show wpAny (model X.prog X.w) X.A (subscriptTail e (.Slice none none (some (.UnaryOp .USub (.Constant (.int 1) k p1) p2)) p3) (.ref a) (.ref s4.heap.objs.size)) (EP X pins σ Q) X.xe { s4 with heap := s4.heap.push { cls := .type "slice", data := .fields #[vl, vu, vs] } }
  rcases q with ⟨hx, q⟩ | ⟨hx, q⟩
  · obtain ⟨its, r, ht, hz⟩ := I5.list hx
    have hlen := r.length
    refine tail_any (ops := [.ref a, .ref s4.heap.objs.size]) ht.isList.typeIs (PySem.slot_list_getitem.lookup) ?_ (by with_unfolding_all rfl)
    refine wpAny_getItem_list_slice ht.isList (Heap.IsSliceOf.new _ vl vu vs) pl pu ps (by decide) ?_ (by rw [List.size_toArray]; omega)
    rw [PySem.W.krv_pick]
    refine ⟨.ref _, _, I5.laid (t' := s4.toks) (o := .lst xs.reverse) (fun b ob q => Heap.get?_push_of_some _ q) (Nat.le_refl _) ?_, rfl, q _ (I5.hok.fresh (Nat.le_refl _))⟩
    exact ⟨by rw [List.length_reverse]; exact hz, _, 0, r.reverse, Heap.get?_push_size _ rfl⟩
  · obtain ⟨its, r, ht, hz⟩ := I5.tuple hx
    have hlen := r.length
    refine tail_any (ops := [.ref a, .ref s4.heap.objs.size]) ht.typeIs (PyProof.Rows.slot_tuple_getitem.lookup) ?_ (by with_unfolding_all rfl)
    refine item_tup_rev ht (Heap.IsSliceOf.new _ vl vu vs) pl pu ps ?_ (by rw [List.size_toArray]; omega)
    refine ⟨.ref _, _, I5.laid (t' := s4.toks) (o := .tup xs.reverse) (fun b ob q => Heap.get?_push_of_some _ q) (Nat.le_refl _) ?_, rfl, q _ (I5.hok.fresh (Nat.le_refl _))⟩
    exact ⟨by rw [List.length_reverse]; exact hz, _, r.reverse, IsTup.new _ _⟩
theorem Reps.reverse {K : PySem.W.Frag} {mg : Str → Option Value} {W : Wd} : ∀ {l : List D} {vs : List V}, Reps K mg W l vs → Reps K mg W l.reverse vs.reverse
  | [], vs, h => by
    cases (show vs = [] from h)
    exact rfl
  | d :: l, vs, h => by
    obtain ⟨v, r, rfl, h1, h2⟩ := h
    rw [List.reverse_cons, List.reverse_cons]
    exact (Reps.reverse h2).append (Reps.one h1)
def revG : D → Option D
  | .lst l => some (.lst l.reverse)
  | .tup l => some (.tup l.reverse)
  | _ => none
@[simp] theorem revG_l (l : List D) : revG (.lst l) = some (.lst l.reverse) := rfl
@[simp] theorem revG_t (l : List D) : revG (.tup l) = some (.tup l.reverse) := rfl
theorem ee_rev {e : Expr} {f : FE} {k : Nat} {p1 p2 p3 pos : Pos} (he : EE X c Wx e f) : EE X c Wx (.Subscript e (.Slice none none (some (.UnaryOp .USub (.Constant (.int 1) k p1) p2)) p3) pos) (x1 f (pur1 revG)) :=
  (pe_revA he).impQ fun σ H Q ⟨W, o, e, m, M, h⟩ => ⟨W, o, e, m, M, (Post.bind (Rp := Rep X.K X.mg) h).mono fun v H1 ⟨W1, o1, e1, m1, d1, u1, M1, r1, h1⟩ => by
    obtain ⟨d, hd, h2⟩ := Post.fin h1
    clear h1
    unfold revG at hd
    split at hd
    · rename_i l
      cases hd
      obtain ⟨a, vs, rfl, hp, hz, r⟩ := r1
      exact ⟨a, vs, rfl, .inl ⟨SqL.of (M1.sub _ _ hp), fun p hp' => Post.new h2 M1 hp' (rep_lst (M1.newP hp') (by rw [List.length_reverse]; exact hz) r.reverse)⟩⟩
    · rename_i l
      cases hd
      obtain ⟨a, vs, rfl, hp, hz, r⟩ := r1
      exact ⟨a, vs, rfl, .inr ⟨SqT.of (M1.sub _ _ hp), fun p hp' => Post.new h2 M1 hp' (rep_tup (M1.newP hp') (by rw [List.length_reverse]; exact hz) r.reverse)⟩⟩
    · cases hd⟩

/-! ### isinstance(x, C), C an own class -/
structure IsC (K : PySem.W.Frag) (C : Addr) : Prop where
  cl : Cls K C
  ha : PySem.W.findIn K (.ref C) "__class__" = some (some (.builtin "object.__class__"))
  hn : PySem.W.specialIn K (.builtin "object.__class__") "__get__" = some (some (.builtin "getset_descriptor.__get__"))
  ht : PySem.W.takesIn K (.builtin "object.__class__") = some true
  hm : PySem.W.mroIn K C (.type "object") = some true
/-- the answers for instances of the classes of the row -/
inductive KI (K : PySem.W.Frag) (mg : Str → Option Value) (C : Addr) : List (Str × Bool) → Prop where
  | nil : KI K mg C []
  | cons {x : Str} {b : Bool} {C' : Addr} {xs : List (Str × Bool)} (h : mg x = some (.ref C')) (i : IsC K C') (k : PySem.W.kitOne K (.ref C') (.ref C) = some b) (r : KI K mg C xs) : KI K mg C ((x, b) :: xs)
  | gone {x : Str} {b : Bool} {xs : List (Str × Bool)} (h : mg x = none) (r : KI K mg C xs) : KI K mg C ((x, b) :: xs)
theorem KI.get {K : PySem.W.Frag} {mg : Str → Option Value} {C : Addr} : ∀ {cs : List (Str × Bool)} {x : Str} {b : Bool}, KI K mg C cs → cs.lookup x = some b → mg x = none ∨ ∃ C', mg x = some (.ref C') ∧ IsC K C' ∧ PySem.W.kitOne K (.ref C') (.ref C) = some b
  | _, _, _, .cons (x := y) h i k r, e => by
    rw [List.lookup_cons] at e
    split at e
    · rename_i q
      cases e
      cases (beq_iff_eq.mp q)
      exact .inr ⟨_, h, i, k⟩
    · exact r.get e
  | _, _, _, .gone (x := y) h r, e => by
    rw [List.lookup_cons] at e
    split at e
    · rename_i q
      cases (beq_iff_eq.mp q)
      exact .inl h
    · exact r.get e
def tysB : List String := ["NoneType", "bool", "int", "str", "tuple", "list", "dict"]
theorem tyE_mem {d : D} {T : String} (h : tyE d = some T) : T ∈ tysB := by
  cases d <;> cases h <;> decide
def isCB (cs : List (Str × Bool)) : D → Option D
  | .ins c' _ _ => (cs.lookup c').map .bl
  | d => if (tyE d).isSome then some (.bl false) else none
def isCG (cn : Str) (cs : List (Str × Bool)) : List D → Option D
  | [d, .glo x] => if x = cn then isCB cs d else none
  | _ => none
@[simp] theorem isCG_on (cn : Str) (cs : List (Str × Bool)) (d : D) : isCG cn cs [d, .glo cn] = isCB cs d := if_pos rfl
theorem cd_isC {cn : Str} {C : Addr} {cs : List (Str × Bool)} (hm : X.mg cn = some (.ref C)) (N : KI X.K X.mg C cs) (hb : ∀ T ∈ tysB, PySem.W.kitOne X.K (.type T) (.ref C) = some false) : CaD X c Wx (rIsi X.K) (purA (isCG cn cs)) := by
  intro W o σ H e m xs vs Q M rx h0
  obtain ⟨r, hr, h⟩ := Post.fin h0
  unfold isCG at hr
  split at hr
  · rename_i d x
    split at hr
    · rename_i ex
      subst ex
      obtain ⟨v, v', rfl, q1, q2⟩ := rx.two_inv
      obtain ⟨C2, rfl, hC⟩ := q2
      rw [hm] at hC
      cases hC
      unfold isCB at hr
      split at hr
      · rename_i c' ns vs'
        obtain ⟨b, hl, rfl⟩ := Option.map_eq_some_iff.mp hr
        obtain ⟨a, C2, dx, vs2, rfl, hC2, hp, _⟩ := q1
        rcases N.get hl with h1 | ⟨C', h1, i, k⟩
        · rw [h1] at hC2
          cases hC2
        rw [h1] at hC2
        cases hC2
        exact ⟨_, _, _, _, b, rfl, .own C, .base (.ins (M.sub _ _ hp) i.cl i.ha i.hn i.ht i.hm), k, Post.here h M rfl⟩
      · split at hr
        · rename_i hs
          cases hr
          obtain ⟨T, hT⟩ := Option.isSome_iff_exists.mp hs
          exact ⟨_, _, _, _, false, rfl, .own C, tyE_rep M q1 hT, hb T (tyE_mem hT), Post.here h M rfl⟩
        · cases hr
    · cases hr
  · cases hr
theorem ee_isC {cn : Str} {C : Addr} {cs : List (Str × Bool)} {p pos : Pos} {x1 : Expr} {xs : List Expr} {f : FA} (hm : X.mg cn = some (.ref C)) (N : KI X.K X.mg C cs) (hb : ∀ T ∈ tysB, PySem.W.kitOne X.K (.type T) (.ref C) = some false)
    (hgl : Gl X "isinstance") (hmi : X.mg "isinstance" = none) (ha : EA X c Wx (x1 :: xs) f) (he : starEach (x1 :: xs) X.env = (false, eval x1 X.env) :: starEach xs X.env := by rfl) (hpl : (backTo pos (starEach xs X.env)).any (·.1) = false := by rfl) :
    EE X c Wx (.Call (.Name "isinstance" p) (x1 :: xs) [] pos) (xA f (purA (isCG cn cs))) := ee_callB call_isi (by decide +kernel) (cd_isC hm N hb) hgl hmi ha (by decide) (by decide) he hpl
end
end Qd
end
section
set_option Elab.async false
set_option linter.all false
set_option autoImplicit false
set_option maxRecDepth 100000

/-! Promises that hold where no repr is under way. -/
namespace Qd
open PySem PySem.Spec PyProof.Rows L2
section
variable {P : Program} {w : World} {K : PySem.W.Frag} {mg : Str → Option Value} {base : Heap} {CX : CXT} {k j : Nat} {g : Addr} {sp : Sp}
/-- called with values, nothing under way -/
def FnRG (P : Program) (w : World) (K : PySem.W.Frag) (mg : Str → Option Value) (base : Heap) (CX : CXT) (k : Nat) (g : Addr) (sp : Sp) : Prop :=
  ∀ (A : Around) (fr : List PySem.Env) (t : Shared) (H : Hp) (us : List Value) (vs : List V) (Q : VK) (E : XK), Room k A → A.guards = some [] → Env0 P w K mg base A fr t H → Vals vs us →
    sp vs H Q E → codeAny (model P w) A (.call (.ref g) ⟨us, []⟩) (CR CX fr P w H t Q E) t
theorem _root_.L2.FnR.toG (F : FnR P w K mg base CX k g sp) : FnRG P w K mg base CX k g sp := fun A fr t H us vs Q E hr _ e0 r h => F A fr t H us vs Q E hr e0 r h
theorem FnRG.mono (F : FnRG P w K mg base CX j g sp) (h : j ≤ k) : FnRG P w K mg base CX k g sp := fun A fr t H us vs Q E hr => F A fr t H us vs Q E (hr.mono h)
structure FnG (P : Program) (w : World) (K : PySem.W.Frag) (mg : Str → Option Value) (base : Heap) (CX : CXT) (k : Nat) (g : Addr) (fd : FuncData) (ps : List Str) (sp : Sp) : Prop where
  len : ∀ vs H Q E, sp vs H Q E → vs.length = ps.length
  go : ∀ (A : Around) (fr : List PySem.Env) (t : Shared) (H : Hp) (args : Args) (us : List Value) (vs : List V) (Q : VK) (E : XK), Room k A → A.guards = some [] → Env0 P w K mg base A fr t H → BindsTo t fd args (ps.zip us) → Vals vs us →
    sp vs H Q E → codeAny (model P w) A (.call (.ref g) args) (CR CX fr P w H t Q E) t
theorem FnG.raw {fd : FuncData} {ps : List Str} (F : FnG P w K mg base CX k g fd ps sp) (hb : Binds K fd ps []) : FnRG P w K mg base CX k g sp := by
  intro A fr t H us vs Q E hr hg e0 r hs
  have hl : us.length = ps.length := by rw [← r.length]; exact F.len _ _ _ _ hs
  have b := hb t us (e0.mod.kin.keeps fun a o e => (e0.bs a o e).1) (by simpa using hl)
  exact F.go A fr t H ⟨us, []⟩ us vs Q E hr hg e0 (by simpa using b) r hs
/-- a def of the text, by its body -/
theorem fnG_of {x qual : Str} {st : Stmt} {fd : FuncData} {N ps : List Str} (F : Fun K x qual st g fd) (S : FnScope N ps (defScope st)) (hlen : ∀ vs H Q E, sp vs H Q E → vs.length = ps.length)
    (hb : ∀ (cdv : Value) (A : Around) (fr : List PySem.Env) (t : Shared) (H : Hp) (vs : List V) (Q : VK) (E : XK), Room k (A.deeper (envOfC qual (defScope st) t.heap.objs.size g cdv)) → A.guards = some [] → sp vs H Q E →
      ∃ rd, PSs (cxOf CX P w K mg base N qual (defScope st) g cdv A fr t H E) (defBody st) rd ∧ rd { nx := fun _ H' => Q .non H', rt := Q } (L2.start N vs) H) : FnG P w K mg base CX (k + 1) g fd ps sp := by
  obtain ⟨oc, od, kV, doc, pm, an, cdv, ct, osl, rfl, lk, hcd⟩ := F.ex
  refine ⟨hlen, fun A fr t H args us vs Q E hr hg e0 hbt rv hsp => ?_⟩
  have stay : ∀ b o, base.get? b = some o → t.heap.get? b = some o := fun b o e => (e0.bs b o e).1
  have KX := e0.mod.kin.keeps stay
  have nl := e0.mod.nolimit.keeps stay
  have kinds : ∀ y ∈ ps.zip us, (defScope st).names.lookup y.1 = some .local ∨ ((defScope st).names.lookup y.1 = some .cell ∧ ((cellsFrom (t.heap.objs.size + 1) (defScope st).names []).lookup y.1).isSome = true) := by
    rintro ⟨n, v⟩ hy
    rcases S.par n (List.of_mem_zip hy).1 with q | q
    · exact .inl q
    · exact .inr ⟨q, PySem.W.cellsFrom_some _ _ _ (.inl q)⟩
  refine codeAny_call_function hr.depth (KX _ _ lk) rfl S.co S.gen rfl (PySem.W.codeRec_of KX hcd) (hbt _ _ _ _ ?_)
  refine wpAny_newFunctionEnv_cells S.kind kinds fun en he t1 x => ?_
  subst he
  refine ⟨nl.keeps x.toInCall.keep, codeAny_func ?_⟩
  obtain ⟨rd, hrd, hq⟩ := hb cdv A fr t H vs Q E (hr.deeper _) hg hsp
  have I0 := inv_start (CX := CX) (E := E) (cd := cdv) S hr.hd e0 (hlen _ _ _ _ hsp) rv x
  refine wpAny_mono (hrd.run [] t1 (L2.start N vs) H _ I0 hq) (fun fl t2 hs => ?_) fun e t2 hs => hs
  cases fl with
  | ret u =>
    obtain ⟨v, σ2, H2, J, r2, q⟩ := hs
    exact ⟨v, H2, J.os, J.bare, J.base, J.hok, r2, q⟩
  | next =>
    obtain ⟨σ2, H2, J, q⟩ := hs
    exact ⟨.non, H2, J.os, J.bare, J.base, J.hok, rfl, q⟩
  | brk =>
    obtain ⟨_, _, _, q⟩ := hs
    exact q.elim
  | cont =>
    obtain ⟨_, _, _, q⟩ := hs
    exact q.elim
end
/-! ### the law's call -/
section
variable {P : Program} {w : World} {K : PySem.W.Frag} {mg mb : Str → Option Value} {CX : CXT} {k : Nat} {fa a : Addr} {fd : FuncData} {x : Str} {sp : Sp} {t : Shared} {vs : List Value} {ns : List Int}
/-- from what is tracked of the script: nothing, or the script itself -/
theorem law_coreG (KX : K.In t.heap) (hns : t.heap.Ns mainGlobals mg) (hb : t.heap.Ns builtinsNs mb) (hbb : ∀ y : Str, y ≠ "__name__" → mb y = bootBuiltins y) (hlim : t.heap.NoLimit) (hgen : t.gens = #[])
    (ha : t.heap.get? a = some { cls := .type "list", data := .seq vs.toArray }) (hr : Room k callerA)
    (F : ∀ base : Heap, K.In base → base.Ns mainGlobals mg → FnG P w K mg base CX k fa fd [x] sp) (hbind : ∀ (s : Shared) (u : Value), BindsTo s fd ⟨[u], []⟩ [(x, u)])
    (hCX : ∀ H e s', CX [] H t (fun _ _ _ => False) e s' → False) (H : Hp) (hO : Only H) (hsp : sp [.ref a] H (fun v _ => v = .bl true) fun _ _ _ => False) (hok : HOk P w H t.heap)
    (hA : ∀ b, H b ≠ none → b = a ∧ K.lookup a = none) : codeAny (model P w) callerA (.call (.ref fa) ⟨[.ref a], []⟩) (fun r s' => r = .ok (.ret (.bool true)) ∧ OldK t.heap s'.heap ∧ s'.os = t.os ∧ AllBare s'.gens) t := by
  have free : ∀ {b : Addr} {o : Obj}, t.heap.get? b = some o → (b = a → o.data = .seq vs.toArray 0 → False) → H b = none := by
    intro b o e n
    cases q : H b with
    | none => rfl
    | some u =>
      obtain ⟨rfl, _⟩ := hA b (by rw [q]; simp)
      rw [ha] at e
      cases e
      exact (n rfl rfl).elim
  have nsB : ∀ {b : Addr} {m : Str → Option Value}, t.heap.Ns b m → (hidT t.heap H).Ns b m := by
    rintro b m ⟨o, es, ep, e, d, r⟩
    exact ⟨o, es, ep, hidT_get e (free e fun _ z => by rw [d] at z; cases z), d, r⟩
  have kB : K.In (hidT t.heap H) := by
    intro b o e
    refine hidT_get (KX b o e) ?_
    cases q : H b with
    | none => rfl
    | some u =>
      obtain ⟨rfl, z⟩ := hA b (by rw [q]; simp)
      rw [z] at e
      cases e
  obtain ⟨mc, l1, l2⟩ := hlim
  have mo : Mod K mg (hidT t.heap H) := ⟨kB, nsB hns, ⟨mb, nsB hb, hbb⟩, mc, nsB l1, l2⟩
  have e0 : Env0 P w K mg (hidT t.heap H) callerA [] t H := by
    refine ⟨rfl, mo, fun b o e => of_hidT e, Nat.le_of_eq (hidT_size _ _), trivial, fun b hb => ?_, hok, .of_eq hgen⟩
    cases hb
  have run := (F _ kB (nsB hns)).go callerA [] t H ⟨[.ref a], []⟩ [.ref a] [.ref a] _ _ hr rfl e0 (hbind t (.ref a)) (.cons rfl .nil) hsp
  refine codeAny_mono run fun r t2 h => ?_
  cases r with
  | error e => exact (hCX H e t2 h).elim
  | ok fl =>
    cases fl with
    | next => exact h.elim
    | brk => exact h.elim
    | cont => exact h.elim
    | ret u =>
      obtain ⟨v, H2, os, bare, un, hok2, rv, q⟩ := h
      cases (show v = V.bl true from q)
      cases (show u = Value.bool true from rv)
      refine ⟨rfl, OldK.of_keep fun b o e => ?_, os, bare⟩
      cases z : H b with
      | none => exact un.keep b o e z (fun y => by cases y) (by simp)
      | some u =>
        rcases hO b with y | ⟨ob, xs, y⟩
        · rw [z] at y
          cases y
        · obtain ⟨e1, _⟩ := hok b _ y
          obtain ⟨e2, _⟩ := hok2 b _ (un.frzs b ob _ y)
          rw [e] at e1
          cases e1
          exact e2
theorem law_callG (KX : K.In t.heap) (hns : t.heap.Ns mainGlobals mg) (hb : t.heap.Ns builtinsNs mb) (hbb : ∀ y : Str, y ≠ "__name__" → mb y = bootBuiltins y) (hlim : t.heap.NoLimit) (hgen : t.gens = #[])
    (ha : t.heap.get? a = some { cls := .type "list", data := .seq vs.toArray }) (hi : IntsAre vs ns) (hl : ns.length ≤ sizeLine) (hr : Room k callerA)
    (F : ∀ base : Heap, K.In base → base.Ns mainGlobals mg → FnG P w K mg base CX k fa fd [x] sp) (hbind : ∀ (s : Shared) (u : Value), BindsTo s fd ⟨[u], []⟩ [(x, u)])
    (hsp : ∀ H : Hp, Only H → SqL K H a (ns.map V.int) → sp [.ref a] H (fun v _ => v = .bl true) fun _ _ _ => False)
    (hCX : ∀ H e s', CX [] H t (fun _ _ _ => False) e s' → False) : codeAny (model P w) callerA (.call (.ref fa) ⟨[.ref a], []⟩) (fun r s' => r = .ok (.ret (.bool true)) ∧ OldK t.heap s'.heap ∧ s'.os = t.os ∧ AllBare s'.gens) t := by
  have rv := vals_ints hi
  have lv := hi.length
  have go := law_coreG KX hns hb hbb hlim hgen ha hr F hbind hCX
  cases hk : K.lookup a with
  | some o =>
    have e := KX a o hk
    rw [ha] at e
    cases e
    have O : Only fun _ => none := fun _ => .inl rfl
    refine go (fun _ => none) O (hsp _ O (.inr ⟨_, vs.toArray, _, hk, rfl, rfl, rfl, ?_, by simpa using rv⟩)) (fun b u z => by cases z) fun b z => absurd rfl z
    rw [List.size_toArray, lv]
    exact hl
  | none =>
    have at_ : ∀ b : Addr, b ≠ a → (if b = a then some (HO.frz { cls := .type "list", data := .seq vs.toArray } (.lst (ns.map V.int))) else none) = none := fun b z => if_neg z
    have O : Only fun b => if b = a then some (HO.frz { cls := .type "list", data := .seq vs.toArray } (.lst (ns.map V.int))) else none := by
      intro b
      by_cases z : b = a
      · exact .inr ⟨_, _, if_pos z⟩
      · exact .inl (at_ b z)
    refine go _ O (hsp _ O (.inl (.inr ⟨_, if_pos rfl⟩))) (fun b u z => ?_) fun b z => ?_
    · by_cases y : b = a
      · subst y
        cases (if_pos rfl).symm.trans z
        exact ⟨ha, by rw [List.length_map]; exact hl, vs, _, rv, ha⟩
      · cases (at_ b y).symm.trans z
    · by_cases y : b = a
      · exact ⟨y, hk⟩
      · exact absurd (at_ b y) z
end
theorem walk_ofG {l : PySem.W.OpenLaw} {n k : Nat} {q : Program} {loose : List Str} {XP : (Str → Option Value) → Heap → Prop} {YP : World → Heap → Prop} {d : DefRec} {CX : CXT} {x : Str}
    (hn : l.most = some n) (hn2 : n ≤ sizeLine) (hdf : d.params.defaults = []) (hr : Room k callerA)
    (F : ∀ (w : World) (mg : Str → Option Value) (fa : Addr) (h : Heap), YP w h → h.Ns mainGlobals mg → mg d.name = some (.ref fa) → ∃ (K : PySem.W.Frag) (fd : FuncData) (sp : Sp), K.In h ∧ (∀ (s : Shared) (u : Value), BindsTo s fd ⟨[u], []⟩ [(x, u)]) ∧
        (∀ (H : Hp) (a : Addr) (ns : List Int), ns.length ≤ n → (∀ i ∈ ns, Builtin.Int.intBits i ≤ 1048576) → Only H → SqL K H a (ns.map V.int) → sp [.ref a] H (fun v _ => v = .bl true) fun _ _ _ => False) ∧
        ∀ base : Heap, K.In base → base.Ns mainGlobals mg → FnG l.prog w K mg base CX k fa fd [x] sp)
    (hCX : ∀ (H : Hp) (s : Shared) (e : Value) (s' : Shared), CX [] H s (fun _ _ _ => False) e s' → False) : PySem.W.WalkO q loose XP YP l.row.toRowW d [] (fun f vs => PySem.call f vs) := by
  refine Att.attach_callB hn hdf fun w t0 t mg mb fa o pm cd doc a vs ns G Y ho hd hcd hmg hobj hints hlen hbits hgen => ?_
  obtain ⟨K, fd, sp, KX, hb, hsp, hF⟩ := F w mg fa _ Y G.T.g hmg
  exact law_callG KX G.T.g G.T.b G.T.builtins G.T.nolimit hgen hobj hints (Nat.le_trans hlen hn2) hr hF hb (fun H O S => hsp H a ns hlen hbits O S) fun H e s' => hCX H t e s'
end Qd
end
section
set_option Elab.async false
set_option linter.all false
set_option autoImplicit false
set_option maxRecDepth 100000

/-! repr(x) of plain data. -/
namespace Qd
open PySem PySem.Spec PyProof.Rows L2
open PySem.PyData (strOk)
theorem strOk_of {x : Str} (h : ∀ c ∈ x.cps.toList, c < 0x110000) : strOk x = true := strOk_iff.mpr h
theorem char_lt (c : Char) : c.toNat < 0x110000 := by
  have := c.valid
  unfold UInt32.isValidChar Nat.isValidChar at this
  show c.val.toNat < _
  omega
theorem strOk_ofString (s : String) : strOk (Str.ofString s) = true := by
  refine strOk_of fun c hc => ?_
  rw [PyProof.Rows.signs_ofString] at hc
  obtain ⟨k, _, rfl⟩ := List.mem_map.mp hc
  exact char_lt k
theorem reprChar_ok {q c : Nat} (hq : q < 0x110000) (hc : c < 0x110000) : ∀ x ∈ Builtin.Str.reprChar q c, x < 0x110000 := by
  have hd : ∀ (w : Nat), ∀ x ∈ List.replicate (w - ((Nat.toDigits 16 c).map Char.toNat).length) 48 ++ (Nat.toDigits 16 c).map Char.toNat, x < 0x110000 := by
    intro w x hx
    rcases List.mem_append.mp hx with h | h
    · rw [List.eq_of_mem_replicate h]
      decide
    · obtain ⟨k, _, rfl⟩ := List.mem_map.mp h
      exact char_lt k
  intro x hx
  unfold Builtin.Str.reprChar at hx
  dsimp only at hx
  repeat' split at hx
  all_goals
    first
      | (simp at hx; omega)
      | (rcases List.mem_append.mp hx with h | h
         · simp at h; omega
         · exact hd _ x h)
theorem fold_ok {q : Nat} (hq : q < 0x110000) : ∀ (l : List Nat) (acc : Array Nat), (∀ c ∈ l, c < 0x110000) → (∀ c ∈ acc.toList, c < 0x110000) → ∀ c ∈ (l.foldl (fun out c => out ++ (Builtin.Str.reprChar q c).toArray) acc).toList, c < 0x110000
  | [], acc, _, h => h
  | c :: r, acc, hl, h => by
    rw [List.foldl_cons]
    refine fold_ok hq r _ (fun d hd => hl d (List.mem_cons_of_mem _ hd)) fun d hd => ?_
    rw [Array.toList_append] at hd
    rcases List.mem_append.mp hd with y | y
    · exact h d y
    · exact reprChar_ok hq (hl c List.mem_cons_self) d (by simpa using y)
theorem quote_lt (x : Str) : reprQuote x < 0x110000 := by
  unfold reprQuote
  split <;> decide
theorem strOk_repr {x : Str} (h : strOk x = true) : strOk (reprText x) = true := by
  refine strOk_of fun c hc => ?_
  unfold reprText at hc
  rw [Array.toList_push, ← Array.foldl_toList] at hc
  rcases List.mem_append.mp hc with y | y
  · exact fold_ok (quote_lt x) _ _ (strOk_iff.mp h) (fun d hd => by simp at hd; subst hd; exact quote_lt x) c y
  · simp at y
    subst y
    exact quote_lt x
theorem strOk_textFrom : ∀ (ts : List Str) (k : Nat) (acc : Str), strOk acc = true → (∀ t ∈ ts, strOk t = true) → strOk (textFrom k acc ts) = true
  | [], k, acc, h, _ => h
  | t :: ts, k, acc, h, ht => by
    unfold textFrom
    refine strOk_textFrom ts _ _ (strOk_append (strOk_append h ?_) (ht t List.mem_cons_self)) fun u hu => ht u (List.mem_cons_of_mem _ hu)
    exact strOk_ofString _
theorem strOk_join {sep : Str} (hs : strOk sep = true) : ∀ (ts : List Str), (∀ t ∈ ts, strOk t = true) → strOk (Str.join sep ts) = true
  | [], _ => by
    show strOk Str.empty = true
    decide +kernel
  | [x], h => h x List.mem_cons_self
  | x :: y :: r, h => by
    show strOk (x ++ sep ++ Str.join sep (y :: r)) = true
    exact strOk_append (strOk_append (h x List.mem_cons_self) hs) (strOk_join hs (y :: r) fun t ht => h t (List.mem_cons_of_mem _ ht))
mutual
theorem strOk_shown : ∀ p : PyData, p.canLay0 = true → strOk p.shown = true
  | .none, _ => by decide +kernel
  | .bool b, _ => by cases b <;> decide +kernel
  | .int i, _ => by
    rw [PyData.shown]
    exact strOk_ofString _
  | .str x, h => by
    rw [PyData.shown]
    exact strOk_repr (by simpa [PyData.canLay0] using h)
  | .list xs, h => by
    rw [PyData.shown]
    unfold listText
    exact strOk_append (strOk_textFrom _ _ _ (by decide +kernel) (strOk_shownAll xs (by simpa [PyData.canLay0] using h))) (by decide +kernel)
  | .tuple xs, h => by
    rw [PyData.shown]
    unfold tupleText
    exact strOk_append (strOk_append (by decide +kernel) (strOk_join (by decide +kernel) _ (strOk_shownAll xs (by simpa [PyData.canLay0] using h)))) (strOk_ofString _)
  | .dict kvs, h => by simp [PyData.canLay0] at h
theorem strOk_shownAll : ∀ ps : List PyData, PyData.canLayAll0 ps = true → ∀ t ∈ PyData.shownAll ps, strOk t = true
  | [], _, t, ht => by simp [PyData.shownAll] at ht
  | p :: ps, h, t, ht => by
    rw [PyData.shownAll] at ht
    obtain ⟨h1, h2⟩ : p.canLay0 = true ∧ PyData.canLayAll0 ps = true := by simpa [PyData.canLayAll0] using h
    rcases List.mem_cons.mp ht with rfl | ht
    · exact strOk_shown p h1
    · exact strOk_shownAll ps h2 t ht
end
/-! ### the rule -/
def rRepr (K : PySem.W.Frag) : List V → Hp → VK → Prop := fun vs H Q => ∃ v p, vs = [v] ∧ Dp K H v p ∧ p.canLay0 = true ∧ p.showable = true ∧ p.depth ≤ 60 ∧ p.shown.length ≤ sizeLine ∧ Q (.str p.shown) H
section
variable {X : Cx} {c : C0} {Wx : WX}
theorem call_reprD (hg : X.A.guards = some []) (hu : X.A.units + 100 < cLine) : CallR X (.builtin "repr") (rRepr X.K) := by
  intro pins s σ H xs us Q I r h
  obtain ⟨v, p, rfl, hd, hc, hs, hdp, hz, q⟩ := h
  obtain ⟨u, rfl, ru⟩ := r.one
  obtain ⟨as, rd⟩ := Dp.reads I _ _ _ hd ru
  have fin : ∀ tk, Inv X pins σ H { s with toks := tk } := fun tk => I.tok tk
  cases u with
  | ref a =>
    refine repr_of_reads' rd hs (fun e => ?_) hg (by omega) (fun _ _ e => e) (fun h' tu tk hk => ⟨.str p.shown, H, I.kept (t' := tk) hk, ⟨_, rfl⟩, q⟩) hz
    rw [PyData.hasDict_of_canLay p hc] at e
    cases e
  | none =>
    cases rd
    exact P.repr_of_none ⟨.str _, H, I.tok _, ⟨_, rfl⟩, q⟩
  | bool b =>
    cases rd
    exact P.repr_of_bool ⟨.str _, H, I.tok _, ⟨_, by rw [PyData.shown]⟩, q⟩
  | int i t =>
    cases rd
    refine P.repr_of_int (by simpa [PyData.showable] using hs) ⟨.str _, H, I.tok _, ⟨_, by rw [PyData.shown]⟩, q⟩
  | str x t =>
    cases rd
    refine P.repr_of_str ⟨.str _, H, I.tok _, ⟨_, by rw [PyData.shown]⟩, q⟩ ?_
    rw [PyData.shown] at hz
    exact hz
  | _ => cases rd
def reprG : List D → Option D
  | [d] => match pdO d with
    | some p => if p.showable = true ∧ p.depth ≤ 60 ∧ p.shown.length ≤ 16777216 then some (.str p.shown) else none
    | none => none
  | _ => none
theorem cd_repr : CaD X c Wx (rRepr X.K) (purA reprG) := by
  intro W o σ H e m xs vs Q M rx h0
  obtain ⟨r, hr, h⟩ := Post.fin h0
  unfold reprG at hr
  split at hr
  · rename_i d
    split at hr
    · rename_i p hp
      split at hr
      · rename_i hc
        cases hr
        obtain ⟨v, rfl, q1⟩ := rx.one_inv
        obtain ⟨a1, a2⟩ := q1.dp M.sub hp
        exact ⟨v, p, rfl, a1, a2, hc.1, hc.2.1, hc.2.2, Post.here h M ⟨rfl, okS_mk hc.2.2 (strOk_shown p a2)⟩⟩
      · cases hr
    · cases hr
  · cases hr
theorem ee_repr {p pos : Pos} {x1 : Expr} {f : FA} (hg : X.A.guards = some []) (hu : X.A.units + 100 < cLine) (hgl : Gl X "repr") (hm : X.mg "repr" = none) (ha : EA X c Wx [x1] f) (he : starEach [x1] X.env = (false, eval x1 X.env) :: starEach [] X.env := by rfl) (hpl : (backTo pos (starEach [] X.env)).any (·.1) = false := by rfl) :
    EE X c Wx (.Call (.Name "repr" p) [x1] [] pos) (xA f (purA reprG)) := ee_callB (call_reprD hg hu) (by decide +kernel) cd_repr hgl hm ha (by decide) (by decide) he hpl
end
end Qd
end
section
set_option Elab.async false
set_option linter.all false
set_option autoImplicit false
set_option maxRecDepth 100000

/-! What the top leaves behind: facts by any test of the part of the heap that it wrote; defs at any place. -/
namespace Qd
open PySem PySem.Spec PyProof.Rows L2

abbrev FactQ : Type := PySem.W.Frag → Bool
abbrev DefQ : Type := He5.DefA
def obsQ (fa : List FactQ) (fn : List DefQ) (K : PySem.W.Frag) : He.AlD := ((fa.all fun f => f K) && fn.all fun d => d.ok K, fn.map fun d => He5.fnA K (d.at_ K))
def saysQ (fa : List FactQ) (fn : List DefQ) (K : PySem.W.Frag) : Prop := obsQ fa fn K = He5.valA fn
def obsGQ (n : Nat) (fa : List FactQ) (fn : List DefQ) (g : Addr → Option Obj) : He.AlD := obsQ fa fn (He.frG g (He5.asA g n))
def hookQ (n : Nat) (fa : List FactQ) (fn : List DefQ) : PySem.W.Hook where
  α := He.AlD
  obs := fun s => obsGQ n fa fn s.heap.get?
  val := fun _ => He5.valA fn
  says := fun _ h => ∃ K : PySem.W.Frag, K.In h ∧ saysQ fa fn K
  of := fun _ _ e => ⟨_, He.frG_in, e⟩
  keeps := fun _ _ _ ⟨K, hK, c⟩ k => ⟨K, PySem.W.Frag.In.keeps hK k, c⟩
theorem obsGQ_eq {n : Nat} {fa : List FactQ} {fn : List DefQ} {g : Addr → Option Obj} {s : Shared} (h : ∀ a, g a = s.heap.get? a) : obsGQ n fa fn g = (hookQ n fa fn).obs s := by
  have e : g = s.heap.get? := funext h
  rw [e] <;> rfl
/-- what all texts of a program lean on -/
structure TopQ (fa : List FactQ) (fn : List DefQ) (K : PySem.W.Frag) (mg : Str → Option Value) : Prop where
  at_ : ∃ h : Heap, K.In h ∧ h.Ns mainGlobals mg
  says : saysQ fa fn K
section
variable {fa : List FactQ} {fn : List DefQ} {K : PySem.W.Frag} {mg : Str → Option Value}
theorem TopQ.fact (c : TopQ fa fn K mg) (i : Nat) {f : FactQ} (h : fa[i]? = some f := by rfl) : f K = true := by
  have c0 : ((fa.all fun f => f K) && fn.all fun d => d.ok K) = true := congrArg (fun z : He.AlD => z.1) c.says
  have c1 := (Bool.and_eq_true_iff.mp c0).1
  exact List.all_eq_true.mp c1 f (List.mem_of_getElem? h)
theorem TopQ.def_ (c : TopQ fa fn K mg) (i : Nat) {d : DefQ} (h : fn[i]? = some d := by rfl) : ∃ fd, FunD K d.name d.qual d.params d.body d.scope (d.dvs K) (d.kws K) (d.at_ K) fd := by
  have c0 : ((fa.all fun f => f K) && fn.all fun d => d.ok K) = true := congrArg (fun z : He.AlD => z.1) c.says
  have c2 := (Bool.and_eq_true_iff.mp c0).2
  have e : fn.map (fun d => He5.fnA K (d.at_ K)) = fn.map He5.DefA.val := congrArg (fun z : He.AlD => z.2) c.says
  have e2 : (fn.map fun d => He5.fnA K (d.at_ K))[i]? = (fn.map He5.DefA.val)[i]? := by rw [e]
  rw [List.getElem?_map, List.getElem?_map, h] at e2
  exact He5.DefA.funD (Option.some.inj e2) (List.all_eq_true.mp c2 d (List.mem_of_getElem? h))
theorem TopQ.glo (c : TopQ fa fn K mg) (i : Nat) {x : Str} (h : fa[i]? = some (He.Fa.ok · (.glo x)) := by rfl) : mg x = some (.ref (He.ga K x)) := by
  obtain ⟨_, KX, G⟩ := c.at_
  exact He.glo_ok KX G (c.fact i h)
theorem TopQ.free (c : TopQ fa fn K mg) (i : Nat) {x : Str} (h : fa[i]? = some (He.Fa.ok · (.free x)) := by rfl) : mg x = none := by
  obtain ⟨_, KX, G⟩ := c.at_
  exact He.free_ok KX G (c.fact i h)
theorem TopQ.int (c : TopQ fa fn K mg) (i : Nat) {x : Str} {j : Int} (h : fa[i]? = some (He.Fa.ok · (.int x j)) := by rfl) : ∃ t, mg x = some (.int j t) := by
  obtain ⟨_, KX, G⟩ := c.at_
  exact He.int_ok KX G (c.fact i h)
theorem TopQ.str (c : TopQ fa fn K mg) (i : Nat) {x z : Str} (h : fa[i]? = some (He.Fa.ok · (.str x z)) := by rfl) : ∃ t, mg x = some (.str z t) := by
  obtain ⟨_, KX, G⟩ := c.at_
  exact He.str_ok KX G (c.fact i h)
theorem TopQ.keep (c : TopQ fa fn K mg) (i : Nat) {x : Str} (h : fa[i]? = some (He.Fa.ok · (.keep x)) := by rfl) : PySem.W.keepIn K (.ref (He.ga K x)) = true := He.keep_ok (c.fact i h)
theorem TopQ.cls (c : TopQ fa fn K mg) (i : Nat) {x : Str} (h : fa[i]? = some (He.Fa.ok · (.cls x)) := by rfl) : Cls K (He.ga K x) := He.cls_ok (c.fact i h)
theorem TopQ.noat (c : TopQ fa fn K mg) (i : Nat) {x f : Str} (h : fa[i]? = some (He.Fa.ok · (.noat x f)) := by rfl) : NoAttr K (He.ga K x) f := He.noat_ok (c.fact i h)
theorem TopQ.meth (c : TopQ fa fn K mg) (i : Nat) {x m : Str} (h : fa[i]? = some (He.Fa.ok · (.meth x m)) := by rfl) : Meth K (He.ga K x) m (He.ma K (He.ga K x) m) := He.meth_ok (c.fact i h)
theorem TopQ.mkr (c : TopQ fa fn K mg) (i : Nat) {x : Str} (h : fa[i]? = some (He.Fa.ok · (.mkr x)) := by rfl) : Mk K (He.ga K x) (He.ma K (He.ga K x) "__init__") := He.mkr_ok (c.fact i h)
end
/-! ### properties, classmethods -/
def readB (x : Str) : FactQ := fun K => PySem.W.readsIn K (He.ga K x) (.type "type") && He.eqO (PySem.W.specialIn K (.ref (He.ga K x)) "__getattribute__") (some (some (.builtin "type.__getattribute__")))
def cmetB (x m : Str) : FactQ := fun K => He5.wrapB K (He.ga K x) "classmethod" "classmethod.__get__" m && PySem.W.fnIn K (He5.wf K (He.ga K x) "classmethod" m)
def propB (x m : Str) : FactQ := fun K => He.eqO (PySem.W.findIn K (.ref (He.ga K x)) m) (some (some (.ref (He.ma K (He.ga K x) m)))) && (He.eqO (PySem.W.specialIn K (.ref (He.ma K (He.ga K x) m)) "__get__") (some (some (.builtin "property.__get__"))) &&
  (decide (PySem.W.takesIn K (.ref (He.ma K (He.ga K x) m)) = some true) && (match PySem.W.recIn K (He.ma K (He.ga K x) m) "property" with
    | some (.ref _ :: _) => true
    | _ => false)))
section
variable {fa : List FactQ} {fn : List DefQ} {K : PySem.W.Frag} {mg : Str → Option Value}
theorem TopQ.read (c : TopQ fa fn K mg) (i : Nat) {x : Str} (h : fa[i]? = some (readB x) := by rfl) : ClX.CRead K (He.ga K x) (.type "type") := by
  obtain ⟨c1, c2⟩ := Bool.and_eq_true_iff.mp (c.fact i h)
  exact ⟨c1, He.eqO_ok c2⟩
theorem TopQ.cmet (c : TopQ fa fn K mg) (i : Nat) {x m : Str} (h : fa[i]? = some (cmetB x m) := by rfl) : ClX.CMet K (He.ga K x) (.type "type") m (He.ma K (He.ga K x) m) (He5.wf K (He.ga K x) "classmethod" m) := by
  obtain ⟨c1, c2⟩ := Bool.and_eq_true_iff.mp (c.fact i h)
  exact He5.cmet_of c1 c2
theorem TopQ.prop (c : TopQ fa fn K mg) (i : Nat) {x m : Str} (h : fa[i]? = some (propB x m) := by rfl) : PropOf K (He.ga K x) m (He.ma K (He.ga K x) m) (He5.wf K (He.ga K x) "property" m) := by
  obtain ⟨c1, c2⟩ := Bool.and_eq_true_iff.mp (c.fact i h)
  obtain ⟨c3, c4⟩ := Bool.and_eq_true_iff.mp c2
  obtain ⟨c5, c6⟩ := Bool.and_eq_true_iff.mp c4
  refine ⟨He.eqO_ok c1, He.eqO_ok c3, of_decide_eq_true c5, ?_⟩
  unfold He5.wf
  split at c6
  · rename_i f r e
    exact ⟨r, by rw [e]⟩
  · cases c6
end
/-! ### where defs stand -/
def atG (x : Str) : PySem.W.Frag → Addr := fun K => He.ga K x
def atM (x m : Str) : PySem.W.Frag → Addr := fun K => He.ma K (He.ga K x) m
def atC (x m : Str) : PySem.W.Frag → Addr := fun K => He5.wf K (He.ga K x) "classmethod" m
def atP (x m : Str) : PySem.W.Frag → Addr := fun K => He5.wf K (He.ga K x) "property" m
def dfQ (a : PySem.W.Frag → Addr) (name qual : Str) (st : Stmt) : DefQ := ⟨a, name, qual, defArgs st, defBody st, defScope st, [], []⟩
/-- the n-th statement of a class's body -/
def inCls (st : Stmt) (i : Nat) : Stmt := match st with
  | .ClassDef _ _ _ b _ _ _ _ _ _ _ => b.getD i (.Pass ⟨0, 0, 0, 0⟩)
  | _ => .Pass ⟨0, 0, 0, 0⟩
theorem TopQ.df {fa : List FactQ} {fn : List DefQ} {K : PySem.W.Frag} {mg : Str → Option Value} (c : TopQ fa fn K mg) (i : Nat) {a : PySem.W.Frag → Addr} {name qual : Str} {st : Stmt} (h : fn[i]? = some (dfQ a name qual st) := by rfl) : ∃ fd, Fun K name qual st (a K) fd := by
  obtain ⟨fd, F⟩ := c.def_ i h
  exact ⟨fd, He5.fun_of F⟩
theorem Room.hu {k : Nat} {A : Around} (r : Room k A) : A.units + 100 < cLine := by
  have := r.un
  omega
/-- what leaves a def's body -/
theorem px_body {P : Program} {w : World} {K : PySem.W.Frag} {mg : Str → Option Value} {base : Heap} {N : List Str} {qual : Str} {sc : Scope} {g : Addr} {cdv : Value} {A : Around} {outer : List PySem.Env} {s : Shared} {H : Hp} {E : XK} :
    PX (cxOf (L2.CX P w) P w K mg base N qual sc g cdv A outer s H E) (fun cls d _ H => E cls d H) E :=
  ⟨passes_call (takes_of rfl rfl rfl rfl) fun _ _ _ _ h => h, fun _ _ _ _ h => h⟩
theorem px_none {X : Cx} : PX X W0 E0 := ⟨passL, fun _ _ _ _ h => h.elim⟩
theorem own_body {P : Program} {w : World} {K : PySem.W.Frag} {mg : Str → Option Value} {base : Heap} {N : List Str} {qual : Str} {sc : Scope} {g : Addr} {cdv : Value} {A : Around} {outer : List PySem.Env} {s : Shared} {H : Hp} {E : XK} :
    PassesOwn (model P w) (cxOf (L2.CX P w) P w K mg base N qual sc g cdv A outer s H E).A (cxOf (L2.CX P w) P w K mg base N qual sc g cdv A outer s H E).env (cxOf (L2.CX P w) P w K mg base N qual sc g cdv A outer s H E).xe :=
  passes_of (X := cxOf (L2.CX P w) P w K mg base N qual sc g cdv A outer s H E) rfl
/-- a property's getter -/
def PropF (P : Program) (w : World) (K : PySem.W.Frag) (mg : Str → Option Value) (base : Heap) (k : Nat) (g : Addr) (f : FF) : Prop := ∃ fd ps, FnOk P w K mg base (L2.CX P w) k g fd ps (spD K mg f) ∧ Binds K fd ps []
theorem q_prop {X : Cx} {c : C0} {Wx : WX} {k : Nat} {g C pa : Addr} {f : FF} {x cn : Str} {o : Expr} {fo : FE} {pos : Pos} (hm : X.mg cn = some (.ref C)) (hC : Cls X.K C) (hP : PropOf X.K C x pa g) (F : PropF X.prog X.w X.K X.mg X.base k g f) (hr : Room (k + 1) X.A) (ho : EE X c Wx o fo)
    (hb : attributeBase o x X.env (eval o X.env) = eval o X.env := by rfl) : EE X c Wx (.Attribute o x pos) (xProp cn f fo) := by
  obtain ⟨fd, ps, h1, h2⟩ := F
  exact ee_prop hm hC hP h1 h2 hr ho hb
/-! ### the law's end -/
theorem cx0_of {P : Program} {w : World} {K : PySem.W.Frag} {mg : Str → Option Value} {base : Heap} {k : Nat} {g : Addr} {fd : FuncData} {ps : List Str} {sp : Sp} (F : FnOk P w K mg base (L2.CX P w) k g fd ps sp) : FnOk P w K mg base CX0 k g fd ps (fun vs H Q _ => sp vs H Q E0) := by
  refine ⟨fun vs H Q E h => F.len vs H Q E0 h, fun A outer s H args us vs Q E hr he hb hv h => codeAny_mono (F.run A outer s H args us vs Q E0 hr he hb hv h) fun r s' hq => ?_⟩
  cases r with
  | error e =>
    obtain ⟨_, _, _, _, _, _, _, _, _, _, _, _, z⟩ := hq
    exact z.elim
  | ok fl =>
    cases fl with
    | ret u => exact hq
    | next => exact hq
    | brk => exact hq
    | cont => exact hq
theorem law_ofD {K : PySem.W.Frag} {mg : Str → Option Value} {F : FF} {H : Hp} {a : Addr} {ns : List Int} (hS : SqL K H a (ns.map V.int)) (hl : ns.length ≤ 63) (h : ∃ m, F [.scr ns] [] = .ok (.bl true) [] m) :
    spD K mg F [.ref a] H (fun v _ => v = .bl true) E0 := by
  obtain ⟨m, h⟩ := h
  refine ⟨⟨H, [], 0⟩, [], [.scr ns], ?_, ⟨_, _, rfl, ⟨a, rfl, hS, Nat.le_trans hl (by show 63 ≤ 16777216; decide)⟩, rfl⟩, ?_⟩
  · exact { sub := fun _ _ h => h, p0 := fun _ _ h => h, gP := fun _ h => .inl h, r0 := List.prefix_rfl, gr := fun _ h => .inl h, fr := fun _ _ h _ => h, rnd := List.nodup_nil, rP := (fun _ h => nomatch h),
            own := (fun _ _ h => nomatch h), inj := (fun _ _ _ h => nomatch h), len := rfl, env := (fun i s h => nomatch h), ms := ⟨rfl, fun j mo a h _ => nomatch h⟩ }
  · rw [h]
    exact fun W' o' H' v u M r => r
/-! ### names for what is walked -/
def wAny (f : FE) : FA := fun e m => (f e m).bind itemsD
def wRng1 (f : FA) : FA := fun e m => (f e m).bind rng1G
def wRng2 (f : FA) : FA := fun e m => (f e m).bind rng2G
def wZip (f : FA) : FA := fun e m => (f e m).bind zipG
def wEnum (f : FA) : FA := fun e m => (f e m).bind enumG
def vVal (f : FE) : FV := fun e m => (f e m).bind fun d e m => .ok (.fz d) e m
end Qd
end
section
set_option Elab.async false
set_option linter.all false
set_option autoImplicit false
set_option maxRecDepth 100000

/-! Plain lemmas about the functions' parts. -/
namespace Qd
open PySem PySem.Spec PyProof.Rows L2

/-! ### coded data: equality, membership -/
structure Cod {α : Type} [DecidableEq α] (f : α → D) (k : Nat) : Prop where
  pd : ∀ a, ∃ p, pdO (f a) = some p ∧ p.depth ≤ k
  eq : ∀ a b p q, pdO (f a) = some p → pdO (f b) = some q → PyData.eqv p q = decide (a = b)
section
variable {α : Type} [DecidableEq α] {f : α → D} {k : Nat}
theorem cod_str : Cod D.str 1 := ⟨fun a => ⟨.str a, rfl, by simp [PyData.depth]⟩, fun a b p q h1 h2 => by
  cases h1
  cases h2
  show (a == b) = _
  rfl⟩
theorem cod_int : Cod D.int 1 := ⟨fun a => ⟨.int a, rfl, by simp [PyData.depth]⟩, fun a b p q h1 h2 => by
  cases h1
  cases h2
  show (a == b) = _
  rfl⟩
theorem Cod.all (c : Cod f k) : ∀ l : List α, ∃ ps, pdOs (l.map f) = some ps ∧ ps.length = l.length ∧ PyData.depthAll ps ≤ k
  | [] => ⟨[], rfl, rfl, Nat.zero_le _⟩
  | a :: l => by
    obtain ⟨p, h1, h2⟩ := c.pd a
    obtain ⟨ps, h3, h4, h5⟩ := Cod.all c l
    refine ⟨p :: ps, ?_, by simp [h4], ?_⟩
    · rw [List.map_cons, pdOs, h1, h3]
    · rw [PyData.depthAll]
      omega
theorem Cod.eqAll (c : Cod f k) : ∀ {l r : List α} {ps qs : List PyData}, pdOs (l.map f) = some ps → pdOs (r.map f) = some qs → PyData.eqvAll ps qs = decide (l = r)
  | [], [], ps, qs, h1, h2 => by
    cases h1
    cases h2
    rfl
  | a :: l, [], ps, qs, h1, h2 => by
    cases h2
    obtain ⟨p, q, _, _, rfl⟩ := pdOs_cons h1
    rfl
  | [], b :: r, ps, qs, h1, h2 => by
    cases h1
    obtain ⟨p, q, _, _, rfl⟩ := pdOs_cons h2
    rfl
  | a :: l, b :: r, ps, qs, h1, h2 => by
    obtain ⟨p, p2, e1, e2, rfl⟩ := pdOs_cons h1
    obtain ⟨q, q2, e3, e4, rfl⟩ := pdOs_cons h2
    rw [PyData.eqvAll, c.eq a b p q e1 e3, Cod.eqAll c e2 e4]
    by_cases z : a = b <;> by_cases y : l = r <;> simp [z, y]
theorem cod_tup (c : Cod f k) : Cod (fun l : List α => D.tup (l.map f)) (k + 1) := ⟨fun l => by
  obtain ⟨ps, h1, h2, h3⟩ := c.all l
  exact ⟨.tuple ps, by rw [pdO, h1]; rfl, by rw [PyData.depth]; omega⟩, fun a b p q h1 h2 => by
  rw [pdO] at h1 h2
  obtain ⟨ps, e1, rfl⟩ := Option.map_eq_some_iff.mp h1
  obtain ⟨qs, e2, rfl⟩ := Option.map_eq_some_iff.mp h2
  exact c.eqAll e1 e2⟩
theorem cod_lst (c : Cod f k) : Cod (fun l : List α => D.lst (l.map f)) (k + 1) := ⟨fun l => by
  obtain ⟨ps, h1, h2, h3⟩ := c.all l
  exact ⟨.list ps, by rw [pdO, h1]; rfl, by rw [PyData.depth]; omega⟩, fun a b p q h1 h2 => by
  rw [pdO] at h1 h2
  obtain ⟨ps, e1, rfl⟩ := Option.map_eq_some_iff.mp h1
  obtain ⟨qs, e2, rfl⟩ := Option.map_eq_some_iff.mp h2
  exact c.eqAll e1 e2⟩
theorem Cod.eqD (c : Cod f k) (hk : k ≤ 60) (a b : α) : Qd.eqD (f a) (f b) = some (decide (a = b)) := by
  obtain ⟨p, h1, h2⟩ := c.pd a
  obtain ⟨q, h3, h4⟩ := c.pd b
  unfold Qd.eqD
  rw [h1, h3]
  simp only
  rw [if_pos ⟨by omega, by omega⟩, c.eq a b p q h1 h3]
theorem Cod.any (c : Cod f k) {a : α} {p : PyData} (h : pdO (f a) = some p) : ∀ {l : List α} {ps : List PyData}, pdOs (l.map f) = some ps → (ps.any fun z => PyData.eqv z p) = decide (a ∈ l)
  | [], ps, e => by
    cases e
    rfl
  | b :: l, ps, e => by
    obtain ⟨q, q2, e1, e2, rfl⟩ := pdOs_cons e
    rw [List.any_cons, Cod.any c h e2, c.eq b a q p e1 h]
    by_cases z : b = a
    · subst z
      simp
    · have z' : ¬ a = b := fun y => z y.symm
      by_cases y : a ∈ l <;> simp [z, z', y]
theorem Cod.inT (c : Cod f k) (hk : k ≤ 60) (a : α) (l : List α) : inD (f a) (.tup (l.map f)) = some (decide (a ∈ l)) := by
  obtain ⟨p, h1, h2⟩ := c.pd a
  obtain ⟨ps, h3, _, _⟩ := c.all l
  unfold inD
  simp only
  rw [h1, h3]
  simp only
  rw [if_pos (by omega), c.any h1 h3]
theorem Cod.inL (c : Cod f k) (hk : k ≤ 60) (a : α) (l : List α) : inD (f a) (.lst (l.map f)) = some (decide (a ∈ l)) := by
  obtain ⟨p, h1, h2⟩ := c.pd a
  obtain ⟨ps, h3, _, _⟩ := c.all l
  unfold inD
  simp only
  rw [h1, h3]
  simp only
  rw [if_pos (by omega), c.any h1 h3]
end
/-- a row of names; a row of rows -/
abbrev dN (l : List Str) : D := .tup (l.map .str)
abbrev dG (g : List (List Str)) : D := .tup (g.map dN)
theorem cod_N : Cod dN 2 := cod_tup cod_str
theorem cod_G : Cod dG 3 := cod_tup cod_N

/-! ### the order of texts -/
def leS (a b : Str) : Bool := dLe (.str a) (.str b)
def ltS (a b : Str) : Bool := decide (a.cps.toList < b.cps.toList)
def sortS (l : List Str) : List Str := l.mergeSort leS
theorem pdOs_str : ∀ l : List Str, pdOs (l.map .str) = some (l.map .str)
  | [] => rfl
  | a :: l => by rw [List.map_cons, pdOs, pdOs_str l]; rfl
theorem sortable_str (l : List Str) : sortable (l.map PyData.str) = true := by
  unfold sortable
  rw [Bool.and_eq_true, Bool.and_eq_true, Bool.or_eq_true]
  refine ⟨⟨?_, .inr ?_⟩, ?_⟩
  · rw [List.all_eq_true]
    intro p hp
    rw [List.all_eq_true]
    intro q hq
    obtain ⟨a, _, rfl⟩ := List.mem_map.mp hp
    obtain ⟨b, _, rfl⟩ := List.mem_map.mp hq
    rfl
  · rw [List.all_eq_true]
    intro p hp
    obtain ⟨a, _, rfl⟩ := List.mem_map.mp hp
    rfl
  · rw [List.all_eq_true]
    intro p hp
    obtain ⟨a, _, rfl⟩ := List.mem_map.mp hp
    simp [PyData.depth]
theorem srtL_str (l : List Str) (h : l.length ≤ 16777216) : srtL (l.map .str) = some ((sortS l).map .str) := by
  unfold srtL
  rw [pdOs_str]
  simp only
  rw [if_pos ⟨sortable_str l, by rw [List.length_map]; exact h⟩]
  unfold sortS
  rw [List.map_mergeSort (r := leS) (s := dLe) (f := D.str) (fun _ _ _ _ => rfl)]
theorem leS_eq (a b : Str) : leS a b = decide (a.cps.toList ≤ b.cps.toList) :=
  congrFun (congrFun (PySem.W.dataLe_str (fun x : Str => x)) a) b
theorem leS_trans (a b c : Str) (h1 : leS a b = true) (h2 : leS b c = true) : leS a c = true := by
  rw [leS_eq, decide_eq_true_eq] at *
  exact List.le_trans h1 h2
theorem leS_total (a b : Str) : (leS a b || leS b a) = true := by
  rw [leS_eq, leS_eq, Bool.or_eq_true, decide_eq_true_eq, decide_eq_true_eq]
  exact List.le_total _ _
theorem ltS_of {a b : Str} (h : leS a b = true) (ne : a ≠ b) : ltS a b = true := by
  rw [leS_eq, decide_eq_true_eq] at h
  unfold ltS
  rw [decide_eq_true_eq]
  by_cases z : a.cps.toList < b.cps.toList
  · exact z
  · exact absurd (PySem.W.str_of_cps (List.le_antisymm h (List.not_lt.mp z))) ne
theorem sortS_perm (l : List Str) : (sortS l).Perm l := List.mergeSort_perm _ _
theorem sortS_le (l : List Str) : (sortS l).Pairwise fun a b => leS a b = true := List.pairwise_mergeSort leS_trans leS_total l
theorem sortS_lt {l : List Str} (h : l.Nodup) : (sortS l).Pairwise fun a b => ltS a b = true := by
  have h2 : (sortS l).Nodup := (sortS_perm l).nodup_iff.mpr h
  exact ((sortS_le l).and h2).imp fun ⟨h1, h3⟩ => ltS_of h1 h3
theorem sortS_mem (l : List Str) (x : Str) : x ∈ sortS l ↔ x ∈ l := (sortS_perm l).mem_iff
theorem sortS_len (l : List Str) : (sortS l).length = l.length := (sortS_perm l).length_eq

/-! ### rows of turns -/
theorem clw_clw {vs : List Nat} {e : Env} : clw vs (clw vs e) = clw vs e := by
  apply List.ext_getElem?
  intro i
  by_cases h : i ∈ vs
  · have z : ∀ (vs : List Nat) (e : Env), i ∈ vs → (clw vs e)[i]? = if i < e.length then some none else none := by
      intro vs
      induction vs with
      | nil => intro e h; simp at h
      | cons v vs ih =>
        intro e h
        unfold clw
        by_cases q : v = i
        · subst q
          rw [List.getElem?_set, if_pos rfl, clw_len]
        · rw [List.getElem?_set_ne q]
          rcases List.mem_cons.mp h with y | y
          · exact absurd y.symm q
          · exact ih e y
    rw [z vs _ h, z vs _ h, clw_len]
  · rw [clw_out h]
theorem rst_back {vs : List Nat} {e0 e1 : Env} (h : clw vs e1 = clw vs e0) : rst e0 vs e1 = e0 := by
  have hl : e1.length = e0.length := by
    have := congrArg List.length h
    rwa [clw_len, clw_len] at this
  apply List.ext_getElem?
  intro i
  have z : ∀ (us : List Nat), (rst e0 us e1)[i]? = if i ∈ us then e0[i]? else e1[i]? := by
    intro us
    induction us with
    | nil => simp [rst]
    | cons v us ih =>
      unfold rst
      by_cases q : v = i
      · subst q
        rw [if_pos (show v ∈ v :: us by simp), List.getElem?_set, if_pos rfl, rst_len]
        split
        · rename_i hv
          rw [List.getD_eq_getElem?_getD]
          rw [List.getElem?_eq_getElem (by omega)]
          rfl
        · rw [List.getElem?_eq_none (by omega)]
      · rw [List.getElem?_set_ne q, ih]
        have : (i ∈ v :: us) ↔ i ∈ us := by simp [Ne.symm q]
        simp only [this]
  rw [z]
  split
  · rfl
  · rename_i hi
    rw [← clw_out hi, h, clw_out hi]
/-- a pure comprehension: t stores, ts tests, fe makes -/
theorem runLc_map {t : FG} {vs : List Nat} {ts : FT} {fe : FE} {E : D → Env} {p : D → Bool} {g : D → D} {e0 : Env} {m : MS} : ∀ (ds : List D),
    (∀ d ∈ ds, t d (clw vs e0) = some (E d)) → (∀ d ∈ ds, clw vs (E d) = clw vs e0) → (∀ d ∈ ds, ts (E d) m = .ok (p d) (E d) m) → (∀ d ∈ ds, p d = true → fe (E d) m = .ok (g d) (E d) m) →
    ∀ e, clw vs e = clw vs e0 → ∃ e', runLc t vs ts fe ds e m = .ok ((ds.filter p).map g) e' m ∧ clw vs e' = clw vs e0
  | [], _, _, _, _, e, he => ⟨e, rfl, he⟩
  | d :: ds, h1, h2, h3, h4, e, he => by
    have q1 := h1 d List.mem_cons_self
    have q3 := h3 d List.mem_cons_self
    unfold runLc
    rw [he, q1]
    simp only [q3, R.bindN_ok]
    have rest := runLc_map ds (fun x hx => h1 x (List.mem_cons_of_mem _ hx)) (fun x hx => h2 x (List.mem_cons_of_mem _ hx)) (fun x hx => h3 x (List.mem_cons_of_mem _ hx)) (fun x hx => h4 x (List.mem_cons_of_mem _ hx)) (E d) (h2 d List.mem_cons_self)
    obtain ⟨e', r1, r2⟩ := rest
    cases hp : p d with
    | false =>
      simp only [Bool.false_eq_true, if_false, List.filter_cons, hp]
      exact ⟨e', r1, r2⟩
    | true =>
      rw [if_pos rfl, h4 d List.mem_cons_self hp]
      simp only [R.bindN_ok, r1]
      exact ⟨e', by simp [List.filter_cons, hp], r2⟩
theorem xLc_map {f : FA} {t : FG} {vs : List Nat} {ts : FT} {fe : FE} {E : D → Env} {p : D → Bool} {g : D → D} {e : Env} {m : MS} {ds : List D} (hf : f e m = .ok ds e m) (hw : okW e vs = true)
    (h1 : ∀ d ∈ ds, t d (clw vs e) = some (E d)) (h2 : ∀ d ∈ ds, clw vs (E d) = clw vs e) (h3 : ∀ d ∈ ds, ts (E d) m = .ok (p d) (E d) m) (h4 : ∀ d ∈ ds, p d = true → fe (E d) m = .ok (g d) (E d) m) :
    xLc f t vs ts fe e m = .ok (.lst ((ds.filter p).map g)) e m := by
  obtain ⟨e', r1, r2⟩ := runLc_map ds h1 h2 h3 h4 e rfl
  unfold xLc
  rw [hf]
  simp only [R.bind_ok, if_pos hw, r1, R.bindN_ok]
  rw [rst_back r2]
/-- .. whose elements change what is shared -/
theorem runLc_inv {t : FG} {vs : List Nat} {fe : FE} {E : D → Env} {e0 : Env} {I : MS → Prop} {P : D → Prop} : ∀ (ds : List D),
    (∀ d ∈ ds, t d (clw vs e0) = some (E d)) → (∀ d ∈ ds, clw vs (E d) = clw vs e0) → (∀ d ∈ ds, ∀ m, I m → ∃ y m', fe (E d) m = .ok y (E d) m' ∧ P y ∧ I m') →
    ∀ e m, clw vs e = clw vs e0 → I m → ∃ l e' m', runLc t vs tAll fe ds e m = .ok l e' m' ∧ clw vs e' = clw vs e0 ∧ l.length = ds.length ∧ (∀ y ∈ l, P y) ∧ I m'
  | [], _, _, _, e, m, he, hI => ⟨[], e, m, rfl, he, rfl, by simp, hI⟩
  | d :: ds, h1, h2, h3, e, m, he, hI => by
    obtain ⟨y, m1, q1, q2, q3⟩ := h3 d List.mem_cons_self m hI
    obtain ⟨l, e', m', r1, r2, r3, r4, r5⟩ := runLc_inv ds (fun x hx => h1 x (List.mem_cons_of_mem _ hx)) (fun x hx => h2 x (List.mem_cons_of_mem _ hx)) (fun x hx => h3 x (List.mem_cons_of_mem _ hx)) (E d) m1 (h2 d List.mem_cons_self) q3
    refine ⟨y :: l, e', m', ?_, r2, by simp [r3], ?_, r5⟩
    · unfold runLc
      rw [he, h1 d List.mem_cons_self]
      simp only [tAll, R.bindN_ok, if_true, q1, r1]
    · intro z hz
      rcases List.mem_cons.mp hz with rfl | hz
      · exact q2
      · exact r4 z hz
theorem xLc_inv {f : FA} {t : FG} {vs : List Nat} {fe : FE} {E : D → Env} {e : Env} {m : MS} {ds : List D} {I : MS → Prop} {P : D → Prop} {m1 : MS} (hf : f e m = .ok ds e m1) (hw : okW e vs = true)
    (h1 : ∀ d ∈ ds, t d (clw vs e) = some (E d)) (h2 : ∀ d ∈ ds, clw vs (E d) = clw vs e) (h3 : ∀ d ∈ ds, ∀ m, I m → ∃ y m', fe (E d) m = .ok y (E d) m' ∧ P y ∧ I m') (hI : I m1) :
    ∃ l m', xLc f t vs tAll fe e m = .ok (.lst l) e m' ∧ l.length = ds.length ∧ (∀ y ∈ l, P y) ∧ I m' := by
  obtain ⟨l, e', m', r1, r2, r3, r4, r5⟩ := runLc_inv ds h1 h2 h3 e m1 rfl hI
  refine ⟨l, m', ?_, r3, r4, r5⟩
  unfold xLc
  rw [hf]
  simp only [R.bind_ok, if_pos hw, r1, R.bindN_ok]
  rw [rst_back r2]
/-- a for: an invariant of the environment and of what is shared -/
theorem runFor_inv {t : FG} {cl : List Nat} {body : FS} : ∀ (ds : List D) (I : List D → Env → MS → Prop) (e : Env) (m : MS), I ds e m →
    (∀ d r e m, I (d :: r) e m → ∃ e1, t d e = some e1 ∧ ∃ e2 m2, body e1 m = .nx e2 m2 ∧ I r (clr cl e2) m2) → ∃ e' m', runFor t cl body ds e m = .nx e' m' ∧ I [] e' m'
  | [], I, e, m, h, _ => ⟨e, m, rfl, h⟩
  | d :: ds, I, e, m, h, k => by
    obtain ⟨e1, h1, e2, m2, h2, h3⟩ := k d ds e m h
    obtain ⟨e', m', r1, r2⟩ := runFor_inv ds I (clr cl e2) m2 h3 k
    refine ⟨e', m', ?_, r2⟩
    unfold runFor
    rw [h1]
    simp only [h2]
    exact r1
end Qd
end
section
set_option Elab.async false
set_option linter.all false
set_option autoImplicit false
set_option maxRecDepth 100000

/-! Comprehensions whose turns leave the slots as they were: less told, easier to read. -/
namespace Qd
open PySem PySem.Spec PyProof.Rows L2
open Classical in
/-- the result, if the slots are E -/
noncomputable def R.pu {α : Type} (E : Env) (r : R α) : R α := match r with
  | .ok a e m => if e = E then .ok a [] m else .no
  | _ => .no
@[simp] theorem R.pu_ok {α : Type} (E : Env) (a : α) (m : MS) : (R.ok a E m).pu E = .ok a [] m := by unfold R.pu; exact if_pos rfl
@[simp] theorem R.pu_no {α : Type} (E : Env) : (R.no : R α).pu E = .no := rfl
@[simp] theorem R.pu_ex {α : Type} (E e : Env) (n : Str) (ns : List Str) (vs : List D) (m : MS) : (R.ex n ns vs e m : R α).pu E = .no := rfl
theorem R.pu_some {α : Type} {E : Env} {r : R α} {a : α} {e : Env} {m : MS} (h : r.pu E = .ok a e m) : r = .ok a E m ∧ e = [] := by
  unfold R.pu at h
  split at h
  · split at h
    · rename_i q
      cases h
      subst q
      exact ⟨rfl, rfl⟩
    · cases h
  · cases h
/-- test, then make -/
def lcR {α : Type} (T : α → MS → R Bool) (F : α → MS → R D) : List α → MS → R (List D)
  | [], m => .ok [] [] m
  | a :: l, m => (T a m).bindN fun b _ m => if b then (F a m).bindN fun y _ m => (lcR T F l m).bindN fun ys _ m => .ok (y :: ys) [] m else lcR T F l m
def lcB {α : Type} (T : α → MS → R Bool) (F : α → MS → R (List D)) : List α → MS → R (List D)
  | [], m => .ok [] [] m
  | a :: l, m => (T a m).bindN fun b _ m => if b then (F a m).bindN fun y _ m => (lcB T F l m).bindN fun ys _ m => .ok (y ++ ys) [] m else lcB T F l m
def dcR {α : Type} (T : α → MS → R Bool) (Fk Fv : α → MS → R D) : List α → List D × List D → MS → R (List D × List D)
  | [], p, m => .ok p [] m
  | a :: l, p, m => (T a m).bindN fun b _ m => if b then (Fk a m).bindN fun k _ m => (Fv a m).bindN fun v _ m => match keyK k with
      | some q => dcR T Fk Fv l (putDk p.1 q, putDv p.1 p.2 q v) m
      | none => .no
    else dcR T Fk Fv l p m
open Classical in
noncomputable def cT (t : FG) (vs : List Nat) (ts : FT) (e : Env) (d : D) (m : MS) : R Bool := match t d (clw vs e) with
  | some E => if clw vs E = clw vs e then (ts E m).pu E else .no
  | none => .no
noncomputable def cF (t : FG) (vs : List Nat) (fe : FE) (e : Env) (d : D) (m : MS) : R D := match t d (clw vs e) with
  | some E => (fe E m).pu E
  | none => .no
noncomputable def xLcP (f : FA) (t : FG) (vs : List Nat) (ts : FT) (fe : FE) : FE := fun e m => (f e m).bind fun ds e m => if okW e vs then (lcR (cT t vs ts e) (cF t vs fe e) ds m).bindN fun l _ m => .ok (.lst l) e m else .no
noncomputable def vLcP (f : FA) (t : FG) (vs : List Nat) (ts : FT) (fe : FE) : FV := fun e m => (f e m).bind fun ds e m => if okW e vs then (lcR (cT t vs ts e) (cF t vs fe e) ds m).bindN fun l _ m => .ok (.ol l) e m else .no
noncomputable def xDcP (f : FA) (t : FG) (vs : List Nat) (ts : FT) (fk fv : FE) : FE := fun e m => (f e m).bind fun ds e m => if okW e vs then (dcR (cT t vs ts e) (cF t vs fk e) (cF t vs fv e) ds ([], []) m).bindN fun l _ m => .ok (.dic l.1 l.2) e m else .no
open Classical in
noncomputable def cB (t : FG) (vs : List Nat) (f1 : FA) (t1 : FG) (vs1 : List Nat) (ts1 : FT) (fe : FE) (e : Env) (d : D) (m : MS) : R (List D) := match t d (clw vs e) with
  | some E => if clw vs1 E = E then ((f1 E m).pu E).bindN fun ds1 _ m => lcR (cT t1 vs1 ts1 E) (cF t1 vs1 fe E) ds1 m else .no
  | none => .no
noncomputable def xLc2P (f : FA) (t : FG) (vs : List Nat) (ts : FT) (f1 : FA) (t1 : FG) (vs1 : List Nat) (ts1 : FT) (fe : FE) : FE := fun e m => (f e m).bind fun ds e m => if okW e vs then (lcB (cT t vs ts e) (cB t vs f1 t1 vs1 ts1 fe e) ds m).bindN fun l _ m => if l.length ≤ 16777216 then .ok (.lst l) e m else .no else .no

theorem bindN_some {α β : Type} {r : R α} {k : α → Env → MS → R β} {b : β} {e : Env} {m : MS} (h : r.bindN k = .ok b e m) : ∃ a e1 m1, r = .ok a e1 m1 ∧ k a e1 m1 = .ok b e m := by
  cases r with
  | ok a e1 m1 => exact ⟨a, e1, m1, rfl, h⟩
  | ex n ns vs e1 m1 => cases h
  | no => cases h
theorem cT_some {t : FG} {vs : List Nat} {ts : FT} {e : Env} {d : D} {m : MS} {b : Bool} {e1 : Env} {m1 : MS} (h : cT t vs ts e d m = .ok b e1 m1) : ∃ E, t d (clw vs e) = some E ∧ clw vs E = clw vs e ∧ ts E m = .ok b E m1 := by
  unfold cT at h
  split at h
  · rename_i E hE
    split at h
    · rename_i hc
      exact ⟨E, hE, hc, (R.pu_some h).1⟩
    · cases h
  · cases h
theorem cF_some {t : FG} {vs : List Nat} {fe : FE} {e : Env} {d y : D} {m : MS} {e1 : Env} {m1 : MS} (h : cF t vs fe e d m = .ok y e1 m1) : ∃ E, t d (clw vs e) = some E ∧ fe E m = .ok y E m1 := by
  unfold cF at h
  split at h
  · rename_i E hE
    exact ⟨E, hE, (R.pu_some h).1⟩
  · cases h
theorem lcR_run {t : FG} {vs : List Nat} {ts : FT} {fe : FE} {e0 : Env} : ∀ (ds : List D) (m : MS) (l : List D) (e1 : Env) (m1 : MS) (e : Env), lcR (cT t vs ts e0) (cF t vs fe e0) ds m = .ok l e1 m1 → clw vs e = clw vs e0 →
    ∃ e', runLc t vs ts fe ds e m = .ok l e' m1 ∧ clw vs e' = clw vs e0
  | [], m, l, e1, m1, e, h, he => by
    cases h
    exact ⟨e, rfl, he⟩
  | d :: ds, m, l, e1, m1, e, h, he => by
    unfold lcR at h
    obtain ⟨b, _, m2, h1, h⟩ := bindN_some h
    obtain ⟨E, hE, hc, hT⟩ := cT_some h1
    unfold runLc
    rw [he, hE]
    simp only [hT, R.bindN_ok]
    cases b with
    | true =>
      rw [if_pos rfl] at h ⊢
      obtain ⟨y, _, m3, h2, h⟩ := bindN_some h
      obtain ⟨ys, _, m4, h3, h⟩ := bindN_some h
      cases h
      obtain ⟨E', hE', hF⟩ := cF_some h2
      rw [hE] at hE'
      cases hE'
      obtain ⟨e', r1, r2⟩ := lcR_run ds m3 ys _ _ E h3 hc
      refine ⟨e', ?_, r2⟩
      simp only [hF, R.bindN_ok, r1]
    | false =>
      simp only [Bool.false_eq_true, if_false] at h ⊢
      exact lcR_run ds m2 l _ _ E h hc
theorem dcR_run {t : FG} {vs : List Nat} {ts : FT} {fk fv : FE} {e0 : Env} : ∀ (ds : List D) (p : List D × List D) (m : MS) (l : List D × List D) (e1 : Env) (m1 : MS) (e : Env), dcR (cT t vs ts e0) (cF t vs fk e0) (cF t vs fv e0) ds p m = .ok l e1 m1 → clw vs e = clw vs e0 →
    ∃ e', runDc t vs ts fk fv ds p e m = .ok l e' m1 ∧ clw vs e' = clw vs e0
  | [], p, m, l, e1, m1, e, h, he => by
    cases h
    exact ⟨e, rfl, he⟩
  | d :: ds, p, m, l, e1, m1, e, h, he => by
    unfold dcR at h
    obtain ⟨b, _, m2, h1, h⟩ := bindN_some h
    obtain ⟨E, hE, hc, hT⟩ := cT_some h1
    unfold runDc
    rw [he, hE]
    simp only [hT, R.bindN_ok]
    cases b with
    | true =>
      rw [if_pos rfl] at h ⊢
      obtain ⟨y, _, m3, h2, h⟩ := bindN_some h
      obtain ⟨z, _, m4, h3, h⟩ := bindN_some h
      obtain ⟨E', hE', hF⟩ := cF_some h2
      rw [hE] at hE'
      cases hE'
      obtain ⟨E', hE', hG⟩ := cF_some h3
      rw [hE] at hE'
      cases hE'
      simp only [hF, hG, R.bindN_ok]
      split at h
      · rename_i q hq
        try simp only [hq]
        exact dcR_run ds _ m4 l _ _ E h hc
      · cases h
    | false =>
      simp only [Bool.false_eq_true, if_false] at h ⊢
      exact dcR_run ds p m2 l _ _ E h hc
theorem lcB_run {t : FG} {vs : List Nat} {ts : FT} {f1 : FA} {t1 : FG} {vs1 : List Nat} {ts1 : FT} {fe : FE} {e0 : Env} (hv : ∀ i ∈ vs1, i ∈ vs) : ∀ (ds : List D) (m : MS) (l : List D) (e1 : Env) (m1 : MS) (e : Env), lcB (cT t vs ts e0) (cB t vs f1 t1 vs1 ts1 fe e0) ds m = .ok l e1 m1 → clw vs e = clw vs e0 →
    ∃ e', runLc2 t vs ts f1 t1 vs1 ts1 fe ds e m = .ok l e' m1 ∧ clw vs e' = clw vs e0
  | [], m, l, e1, m1, e, h, he => by
    cases h
    exact ⟨e, rfl, he⟩
  | d :: ds, m, l, e1, m1, e, h, he => by
    unfold lcB at h
    obtain ⟨b, _, m2, h1, h⟩ := bindN_some h
    obtain ⟨E, hE, hc, hT⟩ := cT_some h1
    unfold runLc2
    rw [he, hE]
    simp only [hT, R.bindN_ok]
    cases b with
    | true =>
      rw [if_pos rfl] at h ⊢
      obtain ⟨y, _, m3, h2, h⟩ := bindN_some h
      obtain ⟨ys, _, m4, h3, h⟩ := bindN_some h
      cases h
      unfold cB at h2
      rw [hE] at h2
      simp only at h2
      split at h2
      · rename_i hcc
        obtain ⟨ds1, _, m5, g1, g2⟩ := bindN_some h2
        obtain ⟨g1, _⟩ := R.pu_some g1
        obtain ⟨e4, q1, q2⟩ := lcR_run ds1 m5 y _ _ E g2 rfl
        have hh : clw vs e4 = clw vs e0 := by
          have z : ∀ {u : Env}, clw vs (clw vs1 u) = clw vs u := by
            intro u
            apply List.ext_getElem?
            intro i
            have zz : ∀ (us : List Nat) (u : Env), i ∈ us → (clw us u)[i]? = if i < u.length then some none else none := by
              intro us
              induction us with
              | nil => intro u h; simp at h
              | cons v us ih =>
                intro u h
                unfold clw
                by_cases q : v = i
                · subst q
                  rw [List.getElem?_set, if_pos rfl, clw_len]
                · rw [List.getElem?_set_ne q]
                  rcases List.mem_cons.mp h with y | y
                  · exact absurd y.symm q
                  · exact ih u y
            by_cases hi : i ∈ vs
            · rw [zz _ _ hi, zz _ _ hi, clw_len]
            · rw [clw_out hi, clw_out hi, clw_out fun y => hi (hv i y)]
          rw [← z, q2, z, hc]
        obtain ⟨e', r1, r2⟩ := lcB_run hv ds m3 ys _ _ e4 h3 hh
        refine ⟨e', ?_, r2⟩
        simp only [g1, R.bindN_ok, q1, r1]
      · cases h2
    | false =>
      simp only [Bool.false_eq_true, if_false] at h ⊢
      exact lcB_run hv ds m2 l _ _ E h hc
/-! ### less told -/
theorem xLcP_le (f : FA) (t : FG) (vs : List Nat) (ts : FT) (fe : FE) (e : Env) (m : MS) : xLcP f t vs ts fe e m = .no ∨ xLcP f t vs ts fe e m = xLc f t vs ts fe e m := by
  unfold xLcP xLc
  cases f e m with
  | ex n ns vs e1 m1 => exact .inr rfl
  | no => exact .inr rfl
  | ok ds e1 m1 =>
    simp only [R.bind_ok]
    split
    · cases q : lcR (cT t vs ts e1) (cF t vs fe e1) ds m1 with
      | ex n ns vs e2 m2 => exact .inl rfl
      | no => exact .inl rfl
      | ok l e2 m2 =>
        obtain ⟨e', r1, r2⟩ := lcR_run ds m1 l e2 m2 e1 q rfl
        refine .inr ?_
        rw [r1]
        simp only [R.bindN_ok]
        rw [rst_back r2]
    · exact .inl rfl
theorem vLcP_le (f : FA) (t : FG) (vs : List Nat) (ts : FT) (fe : FE) (e : Env) (m : MS) : vLcP f t vs ts fe e m = .no ∨ vLcP f t vs ts fe e m = vLc f t vs ts fe e m := by
  unfold vLcP vLc
  cases f e m with
  | ex n ns vs e1 m1 => exact .inr rfl
  | no => exact .inr rfl
  | ok ds e1 m1 =>
    simp only [R.bind_ok]
    split
    · cases q : lcR (cT t vs ts e1) (cF t vs fe e1) ds m1 with
      | ex n ns vs e2 m2 => exact .inl rfl
      | no => exact .inl rfl
      | ok l e2 m2 =>
        obtain ⟨e', r1, r2⟩ := lcR_run ds m1 l e2 m2 e1 q rfl
        refine .inr ?_
        rw [r1]
        simp only [R.bindN_ok]
        rw [rst_back r2]
    · exact .inl rfl
theorem xDcP_le (f : FA) (t : FG) (vs : List Nat) (ts : FT) (fk fv : FE) (e : Env) (m : MS) : xDcP f t vs ts fk fv e m = .no ∨ xDcP f t vs ts fk fv e m = xDc f t vs ts fk fv e m := by
  unfold xDcP xDc
  cases f e m with
  | ex n ns vs e1 m1 => exact .inr rfl
  | no => exact .inr rfl
  | ok ds e1 m1 =>
    simp only [R.bind_ok]
    split
    · cases q : dcR (cT t vs ts e1) (cF t vs fk e1) (cF t vs fv e1) ds ([], []) m1 with
      | ex n ns vs e2 m2 => exact .inl rfl
      | no => exact .inl rfl
      | ok l e2 m2 =>
        obtain ⟨e', r1, r2⟩ := dcR_run ds ([], []) m1 l e2 m2 e1 q rfl
        refine .inr ?_
        rw [r1]
        simp only [R.bindN_ok]
        rw [rst_back r2]
    · exact .inl rfl
theorem xLc2P_le (f : FA) (t : FG) (vs : List Nat) (ts : FT) (f1 : FA) (t1 : FG) (vs1 : List Nat) (ts1 : FT) (fe : FE) (hv : ∀ i ∈ vs1, i ∈ vs) (e : Env) (m : MS) : xLc2P f t vs ts f1 t1 vs1 ts1 fe e m = .no ∨ xLc2P f t vs ts f1 t1 vs1 ts1 fe e m = xLc2 f t vs ts f1 t1 vs1 ts1 fe e m := by
  unfold xLc2P xLc2
  cases f e m with
  | ex n ns vs e1 m1 => exact .inr rfl
  | no => exact .inr rfl
  | ok ds e1 m1 =>
    simp only [R.bind_ok]
    split
    · cases q : lcB (cT t vs ts e1) (cB t vs f1 t1 vs1 ts1 fe e1) ds m1 with
      | ex n ns vs e2 m2 => exact .inl rfl
      | no => exact .inl rfl
      | ok l e2 m2 =>
        obtain ⟨e', r1, r2⟩ := lcB_run hv ds m1 l e2 m2 e1 q rfl
        rw [r1]
        simp only [R.bindN_ok]
        by_cases hl : l.length ≤ 16777216
        · refine .inr ?_
          rw [if_pos hl, if_pos hl, rst_back r2]
        · refine .inl ?_
          rw [if_neg hl]
    · exact .inl rfl
section
variable {X : Cx} {c : C0} {Wx : WX} {x : Expr} {f g : FE}
theorem EE.le (h : EE X c Wx x g) (k : ∀ e m, f e m = .no ∨ f e m = g e m) : EE X c Wx x f := h.impQ fun σ H Q ⟨W, o, e, m, M, q⟩ => ⟨W, o, e, m, M, by
  rcases k e m with z | z
  · rw [z] at q
    exact q.elim
  · rw [z] at q
    exact q⟩
theorem EV.le {f g : FV} (h : EV X c Wx x g) (k : ∀ e m, f e m = .no ∨ f e m = g e m) : EV X c Wx x f := h.impQ fun σ H Q ⟨W, o, e, m, M, q⟩ => ⟨W, o, e, m, M, by
  rcases k e m with z | z
  · rw [z] at q
    exact q.elim
  · rw [z] at q
    exact q⟩
theorem SS.le {s : Stmt} {f g : FS} (h : SS X c Wx s g) (k : ∀ e m, f e m = .no ∨ f e m = g e m) : SS X c Wx s f := h.impQ fun Dn σ H ⟨W, o, e, m, M, q⟩ => ⟨W, o, e, m, M, by
  rcases k e m with z | z
  · rw [z] at q
    exact q.elim
  · rw [z] at q
    exact q⟩
theorem EE.lcP {fa : FA} {t : FG} {vs : List Nat} {ts : FT} {fe : FE} (h : EE X c Wx x (xLc fa t vs ts fe)) : EE X c Wx x (xLcP fa t vs ts fe) := EE.le h (xLcP_le fa t vs ts fe)
theorem EV.lcP {fa : FA} {t : FG} {vs : List Nat} {ts : FT} {fe : FE} (h : EV X c Wx x (vLc fa t vs ts fe)) : EV X c Wx x (vLcP fa t vs ts fe) := EV.le h (vLcP_le fa t vs ts fe)
theorem EE.dcP {fa : FA} {t : FG} {vs : List Nat} {ts : FT} {fk fv : FE} (h : EE X c Wx x (xDc fa t vs ts fk fv)) : EE X c Wx x (xDcP fa t vs ts fk fv) := EE.le h (xDcP_le fa t vs ts fk fv)
theorem EE.lc2P {fa : FA} {t : FG} {vs : List Nat} {ts : FT} {f1 : FA} {t1 : FG} {vs1 : List Nat} {ts1 : FT} {fe : FE} (h : EE X c Wx x (xLc2 fa t vs ts f1 t1 vs1 ts1 fe)) (hv : ∀ i ∈ vs1, i ∈ vs := by decide) : EE X c Wx x (xLc2P fa t vs ts f1 t1 vs1 ts1 fe) := EE.le h (xLc2P_le fa t vs ts f1 t1 vs1 ts1 fe hv)
theorem SS.setLcP {s : Stmt} {i : Nat} {fa : FA} {t : FG} {vs : List Nat} {ts : FT} {fe : FE} (h : SS X c Wx s (sSetV i (vLc fa t vs ts fe))) : SS X c Wx s (sSetV i (vLcP fa t vs ts fe)) := SS.le h fun e m => by
  unfold sSetV
  rcases vLcP_le fa t vs ts fe e m with z | z
  · rw [z]
    exact .inl rfl
  · rw [z]
    exact .inr rfl
theorem SS.setLcFP {s : Stmt} {i : Nat} {fa : FA} {t : FG} {vs : List Nat} {ts : FT} {fe : FE} (h : SS X c Wx s (sSet i (xLc fa t vs ts fe))) : SS X c Wx s (sSet i (xLcP fa t vs ts fe)) := SS.le h fun e m => by
  unfold sSet
  rcases xLcP_le fa t vs ts fe e m with z | z
  · rw [z]
    exact .inl rfl
  · rw [z]
    exact .inr rfl
end
end Qd
end
section
set_option Elab.async false
set_option linter.all false
set_option autoImplicit false
set_option maxRecDepth 100000

/-! Defs and calls where no repr is under way; calls with keywords. -/
namespace Qd
open PySem PySem.Spec PyProof.Rows L2
section
variable {P : Program} {w : World} {K : PySem.W.Frag} {mg : Str → Option Value} {base : Heap}
def FDG (P : Program) (w : World) (K : PySem.W.Frag) (mg : Str → Option Value) (base : Heap) (k : Nat) (g : Addr) (f : FF) : Prop := FnRG P w K mg base (L2.CX P w) k g (spD K mg f)
theorem FD.g {k : Nat} {g : Addr} {f : FF} (F : FD P w K mg base k g f) : FDG P w K mg base k g f := FnR.toG F
theorem fn_defG {x qual : Str} {st : Stmt} {g : Addr} {fd : FuncData} {N ps : List Str} {k : Nat} {fs : FS} (F : Fun K x qual st g fd) (S : FnScope N ps (defScope st))
    (hbody : ∀ (c : C0) (cdv : Value) (A : Around) (outer : List PySem.Env) (s : Shared) (H : Hp) (E : XK), Room k (A.deeper (envOfC qual (defScope st) s.heap.objs.size g cdv)) → A.guards = some [] →
      SSs (cxOf (L2.CX P w) P w K mg base N qual (defScope st) g cdv A outer s H E) c (fun cls d _ H => E cls d H) (defBody st) fs) :
    FnG P w K mg base (L2.CX P w) (k + 1) g fd ps (spD K mg (defF ps.length N.length fs)) := by
  refine fnG_of F S (fun vs H Q E h => ?_) fun cdv A fr t H vs Q E hr hg h => ?_
  · obtain ⟨W, m, ds, M, r, h⟩ := h
    rw [← r.len]
    exact (defF_post h).1
  · obtain ⟨W, m, ds, M, r, h⟩ := h
    obtain ⟨hl, h⟩ := defF_post h
    refine ⟨_, hbody ⟨W.P, W.r, H⟩ cdv A fr t H E hr hg, W, none0, _, m, ?_, h⟩
    rw [start_is (n := ps.length) (by rw [← r.len]; exact hl)]
    exact M.args r
theorem FDG.of {g : Addr} {fd : FuncData} {ps : List Str} {k : Nat} {f : FF} (F : FnG P w K mg base (L2.CX P w) k g fd ps (spD K mg f)) (hb : Binds K fd ps []) : FDG P w K mg base k g f := F.raw hb
end
section
variable {X : Cx} {CX : CXT} {c : C0} {Wx : WX} {E : XK} {k n : Nat} {g C : Addr} {f : FF} {sp : Sp} {x m cn : Str} {pp pos apos : Pos} {e o : Expr} {es : List Expr} {fa : FA} {fo : FE} {t tk : TA} {i : Nat} {kws : List Keyword} {fk : FA} {ks : List Str} {idx : List Nat}
abbrev FDGX (X : Cx) (k : Nat) (g : Addr) (f : FF) : Prop := FDG X.prog X.w X.K X.mg X.base k g f
theorem run_fnRG {pins : List (Addr × Obj)} {σ : L2.St} {H : Hp} {s : Shared} {Q : VK} {us : List Value} {vs : List V} (F : FnRG X.prog X.w X.K X.mg X.base CX k g sp) (hr : Room k X.A) (hg : X.A.guards = some []) (hx : Passes CX X E) (I : Inv X pins σ H s) (r : Vals vs us) (h : sp vs H Q E) :
    codeAny (model X.prog X.w) X.A (.call (.ref g) ⟨us, []⟩) (fun r s' => match r with | .ok (.ret v) => EP X pins σ Q v s' | .ok _ => False | .error e => X.xe e s') s := by
  refine codeAny_mono (F X.A X.stack s H us vs Q E hr hg I.env0 r h) fun r s' hq => ?_
  rcases r with e | fl
  · exact hx pins σ H s e s' I hq
  · cases fl with
    | ret u => exact I.after hq
    | _ => exact hq.elim
theorem pe_cRG (F : FnRG X.prog X.w X.K X.mg X.base CX k g sp) (hr : Room k X.A) (hgu : X.A.guards = some []) (hg : Gl X x) (hm : X.mg x = some (.ref g)) (hk : PySem.W.keepIn X.K (.ref g) = true) (hx : Passes CX X E) (ha : PA X (e :: es) t) (hd : (x == ("__debug__" : Str)) = false := by decide)
    (he : starEach (e :: es) X.env = (false, eval e X.env) :: starEach es X.env := by rfl) (hpl : (backTo pos (starEach es X.env)).any (·.1) = false := by rfl) : PE X (.Call (.Name x pp) (e :: es) [] pos) (tCR sp E t) := by
  refine ⟨fun pins s σ H Q I h => wpAny_Call_Name_kw (ld_glob I hg hm ?_ hd)⟩
  refine PySem.W.callWith_K (h₀ := X.base) I.ok.mod.kin hk (thn (ha.run pos pins s σ H _ I h) fun us s1 ⟨vs, H1, I1, r, q⟩ => ?_) he hpl
  exact ⟨I1.kIn, wpAny_call (run_fnRG F hr hgu hx I1 r q)⟩
theorem pe_cRG0 (F : FnRG X.prog X.w X.K X.mg X.base CX k g sp) (hr : Room k X.A) (hgu : X.A.guards = some []) (hg : Gl X x) (hm : X.mg x = some (.ref g)) (hk : PySem.W.keepIn X.K (.ref g) = true) (hx : Passes CX X E) (hd : (x == ("__debug__" : Str)) = false := by decide) :
    PE X (.Call (.Name x pp) [] [] pos) (tCR sp E tNil) :=
  ⟨fun pins s σ H Q I h => wpAny_Call_Name_kw (ld_glob I hg hm (PySem.W.callWith_K0 I.kIn hk (wpAny_call (run_fnRG F hr hgu hx I .nil h))) hd)⟩
theorem ee_callG (F : FDGX X k g f) (hr : Room k X.A) (hgu : X.A.guards = some []) (hg : Gl X x) (hm : X.mg x = some (.ref g)) (hk : PySem.W.keepIn X.K (.ref g) = true) (hx : PX X Wx E) (ha : EA X c Wx (e :: es) fa) (hd : (x == ("__debug__" : Str)) = false := by decide)
    (he : starEach (e :: es) X.env = (false, eval e X.env) :: starEach es X.env := by rfl) (hpl : (backTo pos (starEach es X.env)).any (·.1) = false := by rfl) : EE X c Wx (.Call (.Name x pp) (e :: es) [] pos) (xCall f fa) :=
  (pe_cRG F hr hgu hg hm hk hx.1 ha hd he hpl).impQ fun σ H Q ⟨W, o, e, m, M, h⟩ => ⟨W, o, e, m, M, (Post.bind (Rp := Reps X.K X.mg) h).mono fun vs H1 ⟨W1, o1, e1, m1, ds, u1, M1, r1, h1⟩ => spD_of M1 r1 (fun cls d H => hx.2 cls d σ H) h1⟩
theorem ee_callG0 (F : FDGX X k g f) (hr : Room k X.A) (hgu : X.A.guards = some []) (hg : Gl X x) (hm : X.mg x = some (.ref g)) (hk : PySem.W.keepIn X.K (.ref g) = true) (hx : PX X Wx E) (hd : (x == ("__debug__" : Str)) = false := by decide) : EE X c Wx (.Call (.Name x pp) [] [] pos) (xCall f aNil) :=
  (pe_cRG0 F hr hgu hg hm hk hx.1 hd).impQ fun σ H Q ⟨W, o, e, m, M, h⟩ => spD_of (ds := []) M rfl (fun cls d H => hx.2 cls d σ H) h
/-! ### f(k = v, ..), f a def of the module -/
def tCRKn (l : Nat) (idx : List Nat) (sp : Sp) (E : XK) (tk : TA) : TE := fun σ H Q => tk σ H fun zs H3 => zs.length = l ∧ sp (permL idx [] zs) H3 Q E
theorem pe_cRK0 (F : FnRK X.prog X.w X.K X.mg X.base CX k g 0 ks idx sp) (hr : Room k X.A) (hg : Gl X x) (hm : X.mg x = some (.ref g)) (hk : PySem.W.keepIn X.K (.ref g) = true) (hx : Passes CX X E) (hkw : PK X kws tk) (hd : (x == ("__debug__" : Str)) = false := by decide)
    (hall : (backToKw pos (keywordEach kws X.env)).all (·.1.isSome) = true := by rfl) (hks : (backToKw pos (keywordEach kws X.env)).filterMap (·.1) = ks := by rfl)
    (hpl : ((backTo pos (starEach [] X.env)).any (·.1) || (backToKw pos (keywordEach kws X.env)).any (·.1.isNone)) = false := by rfl) :
    PE X (.Call (.Name x pp) [] kws pos) (tCRKn ks.length idx sp E tk) := by
  refine ⟨fun pins s σ H Q I h => wpAny_Call_Name_kw (ld_glob I hg hm ?_ hd)⟩
  refine PySem.W.callWith_KW0 (first := []) (h₀ := X.base) I.ok.mod.kin hk hall (thn (hkw.run pos pins s σ H _ I h) fun ws s2 ⟨zs, H2, I2, rz, l2, q2⟩ => ⟨I2.kIn, ?_⟩) hpl
  rw [hks]
  exact wpAny_call (run_fnRK (us := []) (vs := []) F hr hx I2 .nil rz rfl l2 q2)
def xCallK (n : Nat) (idx : List Nat) (g : FF) (fk : FA) : FE := fun e ms => (fk e ms).bind fun ds e ms => if ds.length = n then (g (permL idx [] ds) ms).atE e else .no
theorem ee_callK (F : FnRK X.prog X.w X.K X.mg X.base (L2.CX X.prog X.w) k g 0 ks idx (spD X.K X.mg f)) (hr : Room k X.A) (hg : Gl X x) (hm : X.mg x = some (.ref g)) (hk : PySem.W.keepIn X.K (.ref g) = true) (hx : PX X Wx E) (hkw : EK X c Wx kws fk) (hd : (x == ("__debug__" : Str)) = false := by decide)
    (hall : (backToKw pos (keywordEach kws X.env)).all (·.1.isSome) = true := by rfl) (hks : (backToKw pos (keywordEach kws X.env)).filterMap (·.1) = ks := by rfl)
    (hpl : ((backTo pos (starEach [] X.env)).any (·.1) || (backToKw pos (keywordEach kws X.env)).any (·.1.isNone)) = false := by rfl) :
    EE X c Wx (.Call (.Name x pp) [] kws pos) (xCallK ks.length idx f fk) :=
  (pe_cRK0 F hr hg hm hk hx.1 hkw hd hall hks hpl).impQ fun σ H Q ⟨W, o, e, ms, M, h⟩ => by
    show tA X.K X.mg c Wx fk σ H _
    refine ⟨W, o, e, ms, M, (Post.bind (Rp := Reps X.K X.mg) h).mono fun vs H1 ⟨W1, o1, e1, m1, ds, u1, M1, r1, h1⟩ => ?_⟩
    split at h1
    · rename_i hn
      exact ⟨by rw [← r1.len]; exact hn, spD_of M1 (Reps.perm (ds := []) (vs := []) rfl r1 idx) (fun cls d H => hx.2 cls d σ H) h1⟩
    · exact h1.elim
end
/-! ### the law's end -/
theorem law_ofG {K : PySem.W.Frag} {mg : Str → Option Value} {F : FF} {H : Hp} {a : Addr} {ns : List Int} (hS : SqL K H a (ns.map V.int)) (hl : ns.length ≤ 63) (h : ∃ m, F [.scr ns] [] = .ok (.bl true) [] m) :
    spD K mg F [.ref a] H (fun v _ => v = .bl true) E0 := law_ofD hS hl h
theorem cx0_ofG {P : Program} {w : World} {K : PySem.W.Frag} {mg : Str → Option Value} {base : Heap} {k : Nat} {g : Addr} {fd : FuncData} {ps : List Str} {sp : Sp} (F : FnG P w K mg base (L2.CX P w) k g fd ps sp) : FnG P w K mg base CX0 k g fd ps (fun vs H Q _ => sp vs H Q E0) := by
  refine ⟨fun vs H Q E h => F.len vs H Q E0 h, fun A fr t H args us vs Q E hr hg he hb hv h => codeAny_mono (F.go A fr t H args us vs Q E0 hr hg he hb hv h) fun r s' hq => ?_⟩
  rcases r with e | fl
  · obtain ⟨_, _, _, _, _, _, _, _, _, _, _, _, z⟩ := hq
    exact z.elim
  · cases fl with
    | ret u => exact hq
    | _ => exact hq
end Qd
end
section
set_option Elab.async false
set_option linter.all false
set_option autoImplicit false
set_option maxRecDepth 100000

/-! More facts of the module's top. -/
namespace Qd
open PySem PySem.Spec PyProof.Rows L2
/-- the package's classes of instances -/
abbrev clsQ : List Str := ["Deed", "Urn", "Form", "Shelf", "Trial"]
abbrev clsB (c : Str) : List (Str × Bool) := [("Deed", decide (c = "Deed")), ("Urn", decide (c = "Urn")), ("Form", decide (c = "Form")), ("Shelf", decide (c = "Shelf")), ("Trial", decide (c = "Trial"))]
def binB (x : Str) (r : Str) : FactQ := fun K => PySem.W.selfFirst K (He.ga K x) && He.eqO (PySem.W.findIn K (.ref (He.ga K x)) r) (some none)
def neB (x : Str) : FactQ := fun K => He.eqO (PySem.W.findIn K (.ref (He.ga K x)) "__ne__") (some (some (.builtin "object.__ne__"))) && (PySem.W.mroIn K (He.ga K x) (.type "object") == some true)
def nfB (x y : Str) : FactQ := fun K => PySem.W.notFirst K (He.ga K x) (.ref (He.ga K y))
def fnB (x m : Str) : FactQ := fun K => PySem.W.fnIn K (He.ma K (He.ga K x) m)
def clB (x : Str) : FactQ := fun K => He.eqO (PySem.W.findIn K (.ref (He.ga K x)) "__class__") (some (some (.builtin "object.__class__"))) &&
  (He.eqO (PySem.W.specialIn K (.builtin "object.__class__") "__get__") (some (some (.builtin "getset_descriptor.__get__"))) && ((PySem.W.takesIn K (.builtin "object.__class__") == some true) && (PySem.W.mroIn K (He.ga K x) (.type "object") == some true)))
def kiB (x y : Str) (b : Bool) : FactQ := fun K => PySem.W.kitOne K (.ref (He.ga K y)) (.ref (He.ga K x)) == some b
def ktB (x : Str) : FactQ := fun K => tysB.all fun T => PySem.W.kitOne K (.type T) (.ref (He.ga K x)) == some false
section
variable {fa : List FactQ} {fn : List DefQ} {K : PySem.W.Frag} {mg : Str → Option Value}
theorem TopQ.bin (c : TopQ fa fn K mg) (i : Nat) {x r : Str} {op : Operator} (h : fa[i]? = some (binB x r) := by rfl) (e : dunderR op.info.2 = r := by rfl) : BinOf K (He.ga K x) op := by
  obtain ⟨h1, h2⟩ := Bool.and_eq_true_iff.mp (c.fact i h)
  exact ⟨h1, by rw [e]; exact He.eqO_ok h2⟩
theorem TopQ.ne (c : TopQ fa fn K mg) (i : Nat) {x : Str} (h : fa[i]? = some (neB x) := by rfl) : NeOf K (He.ga K x) := by
  obtain ⟨h1, h2⟩ := Bool.and_eq_true_iff.mp (c.fact i h)
  exact ⟨He.eqO_ok h1, beq_iff_eq.mp h2⟩
theorem TopQ.nf (c : TopQ fa fn K mg) (i : Nat) {x y : Str} (h : fa[i]? = some (nfB x y) := by rfl) : PySem.W.notFirst K (He.ga K x) (.ref (He.ga K y)) = true := c.fact i h
theorem TopQ.fnq (c : TopQ fa fn K mg) (i : Nat) {x m : Str} (h : fa[i]? = some (fnB x m) := by rfl) : PySem.W.fnIn K (He.ma K (He.ga K x) m) = true := c.fact i h
theorem TopQ.isc (c : TopQ fa fn K mg) (i j : Nat) {x : Str} (h : fa[i]? = some (clB x) := by rfl) (h2 : fa[j]? = some (He.Fa.ok · (.cls x)) := by rfl) : IsC K (He.ga K x) := by
  obtain ⟨h1, h2'⟩ := Bool.and_eq_true_iff.mp (c.fact i h)
  obtain ⟨h3, h4⟩ := Bool.and_eq_true_iff.mp h2'
  obtain ⟨h5, h6⟩ := Bool.and_eq_true_iff.mp h4
  exact ⟨c.cls j h2, He.eqO_ok h1, He.eqO_ok h3, beq_iff_eq.mp h5, beq_iff_eq.mp h6⟩
theorem TopQ.ki (c : TopQ fa fn K mg) (i : Nat) {x y : Str} {b : Bool} (h : fa[i]? = some (kiB x y b) := by rfl) : PySem.W.kitOne K (.ref (He.ga K y)) (.ref (He.ga K x)) = some b := beq_iff_eq.mp (c.fact i h)
theorem TopQ.kt (c : TopQ fa fn K mg) (i : Nat) {x : Str} (h : fa[i]? = some (ktB x) := by rfl) : ∀ T ∈ tysB, PySem.W.kitOne K (.type T) (.ref (He.ga K x)) = some false := fun T hT => beq_iff_eq.mp (List.all_eq_true.mp (c.fact i h) T hT)
end
end Qd
end
section
set_option Elab.async false
set_option linter.all false
set_option autoImplicit false
set_option maxRecDepth 100000

/-! Odds and ends. -/
namespace Qd
open PySem PySem.Spec PyProof.Rows L2
section
variable {X : Cx} {c : C0} {Wx : WX} {a b : Expr} {fa fb : FE} {pos p2 : Pos} {x : Str} {i : Nat}
theorem et_inN (hu : X.A.units + 100 < cLine) (ha : EE X c Wx a fa) (hN : X.N[i]? = some x) (hvi : Vis X.env.scope x) (hd : (x == ("__debug__" : Str)) = false := by decide) (hcd : (x == ("__classdict__" : Str)) = false := by decide) : ET X c Wx (.Compare a [.In] [.Name x p2] pos) (tOf (xInN false fa i)) :=
  (pt_cmpR (op_inQ hu) ha (pe_var hN hvi hd hcd) rfl).impQ fun σ H Q ⟨W, o, e, m, M, h⟩ => by
    unfold tOf xInN at h
    refine ⟨W, o, e, m, M, (Post.bind (Rp := Rep X.K X.mg) (Post.bind (Rp := Rep X.K X.mg) h)).mono fun v H1 ⟨W1, o1, e1, m1, d1, u1, M1, r1, h1⟩ => ?_⟩
    obtain ⟨v2, hσ, h1⟩ := Post.onS M1 h1
    refine ⟨v2, hσ, inN_ok M1 r1 hσ (h1.mono fun v3 H3 ⟨W3, o3, e3, m3, d3, u3, M3, r3, h3⟩ => ?_)⟩
    obtain ⟨k, hv, _, q⟩ := post_asB M3 r3 h3
    exact ⟨k, hv, q⟩
theorem et_niN (hu : X.A.units + 100 < cLine) (ha : EE X c Wx a fa) (hN : X.N[i]? = some x) (hvi : Vis X.env.scope x) (hd : (x == ("__debug__" : Str)) = false := by decide) (hcd : (x == ("__classdict__" : Str)) = false := by decide) : ET X c Wx (.Compare a [.NotIn] [.Name x p2] pos) (tOf (xInN true fa i)) :=
  (pt_cmpR (op_niQ hu) ha (pe_var hN hvi hd hcd) rfl).impQ fun σ H Q ⟨W, o, e, m, M, h⟩ => by
    unfold tOf xInN at h
    refine ⟨W, o, e, m, M, (Post.bind (Rp := Rep X.K X.mg) (Post.bind (Rp := Rep X.K X.mg) h)).mono fun v H1 ⟨W1, o1, e1, m1, d1, u1, M1, r1, h1⟩ => ?_⟩
    obtain ⟨v2, hσ, h1⟩ := Post.onS M1 h1
    refine ⟨v2, hσ, inN_ok M1 r1 hσ (h1.mono fun v3 H3 ⟨W3, o3, e3, m3, d3, u3, M3, r3, h3⟩ => ?_)⟩
    obtain ⟨k, hv, _, q⟩ := post_asB M3 r3 h3
    exact ⟨k, hv, q⟩
end
/-! ### dict comprehensions of two clauses -/
def dcB {α : Type} (T : α → MS → R Bool) (G : α → List D × List D → MS → R (List D × List D)) : List α → List D × List D → MS → R (List D × List D)
  | [], p, m => .ok p [] m
  | a :: l, p, m => (T a m).bindN fun b _ m => if b then (G a p m).bindN fun p _ m => dcB T G l p m else dcB T G l p m
open Classical in
noncomputable def cDd (t : FG) (vs : List Nat) (f1 : FA) (t1 : FG) (vs1 : List Nat) (ts1 : FT) (fk fv : FE) (e : Env) (d : D) (p : List D × List D) (m : MS) : R (List D × List D) := match t d (clw vs e) with
  | some E => if clw vs1 E = E then ((f1 E m).pu E).bindN fun ds1 _ m => dcR (cT t1 vs1 ts1 E) (cF t1 vs1 fk E) (cF t1 vs1 fv E) ds1 p m else .no
  | none => .no
noncomputable def xDc2P (f : FA) (t : FG) (vs : List Nat) (ts : FT) (f1 : FA) (t1 : FG) (vs1 : List Nat) (ts1 : FT) (fk fv : FE) : FE := fun e m => (f e m).bind fun ds e m => if okW e vs then (dcB (cT t vs ts e) (cDd t vs f1 t1 vs1 ts1 fk fv e) ds ([], []) m).bindN fun l _ m => if l.1.length < 16777216 then .ok (.dic l.1 l.2) e m else .no else .no
theorem clw_sub {vs vs1 : List Nat} (hv : ∀ i ∈ vs1, i ∈ vs) {u : Env} : clw vs (clw vs1 u) = clw vs u := by
  apply List.ext_getElem?
  intro i
  have zz : ∀ (us : List Nat) (u : Env), i ∈ us → (clw us u)[i]? = if i < u.length then some none else none := by
    intro us
    induction us with
    | nil => intro u h; simp at h
    | cons v us ih =>
      intro u h
      unfold clw
      by_cases q : v = i
      · subst q
        rw [List.getElem?_set, if_pos rfl, clw_len]
      · rw [List.getElem?_set_ne q]
        rcases List.mem_cons.mp h with y | y
        · exact absurd y.symm q
        · exact ih u y
  by_cases hi : i ∈ vs
  · rw [zz _ _ hi, zz _ _ hi, clw_len]
  · rw [clw_out hi, clw_out hi, clw_out fun y => hi (hv i y)]
theorem dcB_run {t : FG} {vs : List Nat} {ts : FT} {f1 : FA} {t1 : FG} {vs1 : List Nat} {ts1 : FT} {fk fv : FE} {e0 : Env} (hv : ∀ i ∈ vs1, i ∈ vs) : ∀ (ds : List D) (p : List D × List D) (m : MS) (l : List D × List D) (e1 : Env) (m1 : MS) (e : Env), dcB (cT t vs ts e0) (cDd t vs f1 t1 vs1 ts1 fk fv e0) ds p m = .ok l e1 m1 → clw vs e = clw vs e0 →
    ∃ e', runDc2 t vs ts f1 t1 vs1 ts1 fk fv ds p e m = .ok l e' m1 ∧ clw vs e' = clw vs e0
  | [], p, m, l, e1, m1, e, h, he => by
    cases h
    exact ⟨e, rfl, he⟩
  | d :: ds, p, m, l, e1, m1, e, h, he => by
    unfold dcB at h
    obtain ⟨b, _, m2, h1, h⟩ := bindN_some h
    obtain ⟨E, hE, hc, hT⟩ := cT_some h1
    unfold runDc2
    rw [he, hE]
    simp only [hT, R.bindN_ok]
    cases b with
    | true =>
      rw [if_pos rfl] at h ⊢
      obtain ⟨p2, _, m3, h2, h⟩ := bindN_some h
      unfold cDd at h2
      rw [hE] at h2
      simp only at h2
      split at h2
      · rename_i hcc
        obtain ⟨ds1, _, m5, g1, g2⟩ := bindN_some h2
        obtain ⟨g1, _⟩ := R.pu_some g1
        obtain ⟨e4, q1, q2⟩ := dcR_run ds1 p m5 p2 _ _ E g2 rfl
        have hh : clw vs e4 = clw vs e0 := by rw [← clw_sub hv, q2, clw_sub hv, hc]
        obtain ⟨e', r1, r2⟩ := dcB_run hv ds p2 m3 l _ _ e4 h hh
        refine ⟨e', ?_, r2⟩
        simp only [g1, R.bindN_ok, q1, r1]
      · cases h2
    | false =>
      simp only [Bool.false_eq_true, if_false] at h ⊢
      exact dcB_run hv ds p m2 l _ _ E h hc
theorem xDc2P_le (f : FA) (t : FG) (vs : List Nat) (ts : FT) (f1 : FA) (t1 : FG) (vs1 : List Nat) (ts1 : FT) (fk fv : FE) (hv : ∀ i ∈ vs1, i ∈ vs) (e : Env) (m : MS) : xDc2P f t vs ts f1 t1 vs1 ts1 fk fv e m = .no ∨ xDc2P f t vs ts f1 t1 vs1 ts1 fk fv e m = xDc2 f t vs ts f1 t1 vs1 ts1 fk fv e m := by
  unfold xDc2P xDc2
  cases f e m with
  | ex n ns vs e1 m1 => exact .inr rfl
  | no => exact .inr rfl
  | ok ds e1 m1 =>
    simp only [R.bind_ok]
    split
    · cases q : dcB (cT t vs ts e1) (cDd t vs f1 t1 vs1 ts1 fk fv e1) ds ([], []) m1 with
      | ex n ns vs e2 m2 => exact .inl rfl
      | no => exact .inl rfl
      | ok l e2 m2 =>
        obtain ⟨e', r1, r2⟩ := dcB_run hv ds ([], []) m1 l e2 m2 e1 q rfl
        rw [r1]
        simp only [R.bindN_ok]
        by_cases hl : l.1.length < 16777216
        · refine .inr ?_
          rw [if_pos hl, if_pos hl, rst_back r2]
        · refine .inl ?_
          rw [if_neg hl]
    · exact .inl rfl
theorem EE.dc2P {X : Cx} {c : C0} {Wx : WX} {x : Expr} {fa : FA} {t : FG} {vs : List Nat} {ts : FT} {f1 : FA} {t1 : FG} {vs1 : List Nat} {ts1 : FT} {fk fv : FE} (h : EE X c Wx x (xDc2 fa t vs ts f1 t1 vs1 ts1 fk fv)) (hv : ∀ i ∈ vs1, i ∈ vs := by decide) : EE X c Wx x (xDc2P fa t vs ts f1 t1 vs1 ts1 fk fv) := EE.le h (xDc2P_le fa t vs ts f1 t1 vs1 ts1 fk fv hv)
end Qd
end
section
set_option Elab.async false
set_option linter.all false
set_option autoImplicit false
set_option maxRecDepth 100000

/-! `is` of truth values. -/
namespace Qd
open PySem PySem.Spec PyProof.Rows L2
def opIsB : D → D → Option D
  | .bl a, .bl b => some (.bl (decide (a = b)))
  | _, _ => none
def opInB : D → D → Option D
  | .bl a, .bl b => some (.bl (!decide (a = b)))
  | _, _ => none
section
variable {X : Cx} {c : C0} {Wx : WX} {a b : Expr} {fa fb : FE} {pos : Pos}
theorem od_isB : OpD X c Wx (fun x y H Q => ∃ a b, x = .bl a ∧ y = .bl b ∧ Q (.bl (decide (a = b))) H) (pur2 opIsB) := by
  intro W o σ H e m x y vx vy Q M rx ry h
  obtain ⟨d, hd, h⟩ := Post.fin h
  unfold opIsB at hd
  split at hd
  · cases hd
    cases rx
    cases ry
    exact ⟨_, _, rfl, rfl, Post.here h M rfl⟩
  · cases hd
theorem od_inB : OpD X c Wx (fun x y H Q => ∃ a b, x = .bl a ∧ y = .bl b ∧ Q (.bl (!decide (a = b))) H) (pur2 opInB) := by
  intro W o σ H e m x y vx vy Q M rx ry h
  obtain ⟨d, hd, h⟩ := Post.fin h
  unfold opInB at hd
  split at hd
  · cases hd
    cases rx
    cases ry
    exact ⟨_, _, rfl, rfl, Post.here h M rfl⟩
  · cases hd
theorem ee_isB (ha : EE X c Wx a fa) (hb : EE X c Wx b fb) : EE X c Wx (.Compare a [.Is] [b] pos) (x2 fa fb (pur2 opIsB)) := ee_cmp op_is_bl od_isB ha hb (nobehind _ (by decide) (by decide))
theorem ee_isnB (ha : EE X c Wx a fa) (hb : EE X c Wx b fb) : EE X c Wx (.Compare a [.IsNot] [b] pos) (x2 fa fb (pur2 opInB)) := ee_cmp op_isnot_bl od_inB ha hb (nobehind _ (by decide) (by decide))
theorem et_isB (ha : EE X c Wx a fa) (hb : EE X c Wx b fb) : ET X c Wx (.Compare a [.Is] [b] pos) (tOf (x2 fa fb (pur2 opIsB))) := et_cmp op_is_bl od_isB ha hb (nobehind _ (by decide) (by decide))
theorem et_isnB (ha : EE X c Wx a fa) (hb : EE X c Wx b fb) : ET X c Wx (.Compare a [.IsNot] [b] pos) (tOf (x2 fa fb (pur2 opInB))) := et_cmp op_isnot_bl od_inB ha hb (nobehind _ (by decide) (by decide))
@[simp] theorem q_isB (a b : Bool) : opIsB (.bl a) (.bl b) = some (.bl (decide (a = b))) := rfl
@[simp] theorem q_inB (a b : Bool) : opInB (.bl a) (.bl b) = some (.bl (!decide (a = b))) := rfl
end
end Qd
end
section
set_option Elab.async false
set_option linter.all false
set_option autoImplicit false
set_option maxRecDepth 100000

/-! Texts: split, join, partition. -/
namespace Qd
open PySem PySem.Spec PyProof.Rows L2
def sM1 (g : D → D → Option D) (fo fa : FE) : FE := fun e m => (fo e m).bind fun x e m => match x with
  | .str s => (fa e m).bind fun y e m => fin (g (.str s) y) e m
  | _ => .no
def splitG : D → D → Option D
  | .str a, .str b => if (b.length == 0) = false ∧ a.length + 2 ≤ sizeLine ∧ (Txt.split a b).length ≤ sizeLine ∧ (Txt.split a b).all okS = true then some (.lst ((Txt.split a b).map .str)) else none
  | _, _ => none
def partG : D → D → Option D
  | .str a, .str b => if (b.length == 0) = false ∧ a.length ≤ sizeLine ∧ okS (Txt.partition a b).1 = true ∧ okS (Txt.partition a b).2.1 = true ∧ okS (Txt.partition a b).2.2 = true then some (.tup [.str (Txt.partition a b).1, .str (Txt.partition a b).2.1, .str (Txt.partition a b).2.2]) else none
  | _, _ => none
def joinT (a : Str) (l : List D) : Option D := match strsO l with
  | some ys => if (ys.map (·.length)).sum + ys.length * a.length ≤ 16777216 ∧ okS (Str.join a ys) = true then some (.str (Str.join a ys)) else none
  | none => none
def joinG : D → D → Option D
  | .str a, .lst l => joinT a l
  | .str a, .tup l => joinT a l
  | _, _ => none
theorem strsO_is : ∀ {l : List D} {ys : List Str}, strsO l = some ys → l = ys.map .str
  | [], ys, h => by
    cases h
    rfl
  | d :: l, ys, h => by
    cases d with
    | str s =>
      rw [strsO] at h
      obtain ⟨r, hr, rfl⟩ := Option.map_eq_some_iff.mp h
      rw [List.map_cons, ← strsO_is hr]
    | _ => cases h
section
variable {X : Cx} {c : C0} {Wx : WX}
theorem reps_str_inv {W : Wd} : ∀ {ys : List Str} {vs : List V}, Reps X.K X.mg W (ys.map .str) vs → vs = ys.map .str
  | [], vs, h => h
  | y :: ys, vs, h => by
    obtain ⟨v, ws, rfl, ⟨rfl, _⟩, r⟩ := h
    rw [List.map_cons, reps_str_inv r]
theorem ee_m1 {r : V → List V → Hp → VK → Prop} {g : D → D → Option D} {o a ex : Expr} {fo fa : FE}
    (hr : ∀ {to te : TE}, PE X o to → PE X a te → PE X ex (tM1 r to te))
    (hg : OpD X c Wx (fun x y H Q => r x [y] H Q) (pur2 g)) (ho : EE X c Wx o fo) (ha : EE X c Wx a fa) : EE X c Wx ex (sM1 g fo fa) :=
  (hr ho ha).impQ fun σ H Q ⟨W, o, e, m, M, h⟩ => ⟨W, o, e, m, M, (Post.bind h).mono fun v H1 ⟨W1, o1, e1, m1, d1, u1, M1, r1, h1⟩ => by
    cases d1 with
    | str s =>
      refine ⟨⟨s, r1.1⟩, W1, o1, e1, m1, M1, (Post.bind h1).mono fun v2 H2 ⟨W2, o2, e2, m2, d2, u2, M2, r2, h2⟩ => ?_⟩
      exact hg W2 o2 σ H2 e2 m2 _ d2 v v2 Q M2 (r1.up u2) r2 h2
    | _ => exact h1.elim⟩
variable {o a : Expr} {fo fa : FE} {apos pos : Pos}
theorem ee_split (ho : EE X c Wx o fo) (ha : EE X c Wx a fa) (hs : starEach [a] X.env = [(false, eval a X.env)] := by rfl) (hbase : attributeBase o "split" X.env (eval o X.env) = eval o X.env := by rfl) (hline : (apos.endLine == pos.line) = true := by rfl) :
    EE X c Wx (.Call (.Attribute o "split" apos) [a] [] pos) (sM1 splitG fo fa) := by
  refine ee_m1 (fun ho he => pe_split ho he hs hbase hline) ?_ ho ha
  intro W o σ H e m x y vx vy Q M rx ry h
  obtain ⟨d, hd, h⟩ := Post.fin h
  unfold splitG at hd
  split at hd
  · split at hd
    · rename_i hz
      cases hd
      obtain ⟨rfl, _⟩ := rx
      obtain ⟨rfl, _⟩ := ry
      refine ⟨_, _, rfl, rfl, hz.1, hz.2.1, fun p hp => Post.new h M hp (rep_lst (M.newP hp) (by rw [List.length_map]; exact hz.2.2.1) (reps_strs (List.all_eq_true.mp hz.2.2.2)))⟩
    · cases hd
  · cases hd
theorem ee_partition (ho : EE X c Wx o fo) (ha : EE X c Wx a fa) (hs : starEach [a] X.env = [(false, eval a X.env)] := by rfl) (hbase : attributeBase o "partition" X.env (eval o X.env) = eval o X.env := by rfl) (hline : (apos.endLine == pos.line) = true := by rfl) :
    EE X c Wx (.Call (.Attribute o "partition" apos) [a] [] pos) (sM1 partG fo fa) := by
  refine ee_m1 (fun ho he => pe_partition ho he hs hbase hline) ?_ ho ha
  intro W o σ H e m x y vx vy Q M rx ry h
  obtain ⟨d, hd, h⟩ := Post.fin h
  unfold partG at hd
  split at hd
  · split at hd
    · rename_i hz
      cases hd
      obtain ⟨rfl, _⟩ := rx
      obtain ⟨rfl, _⟩ := ry
      refine ⟨_, _, rfl, rfl, hz.1, hz.2.1, fun p hp => Post.new h M hp (rep_tup (M.newP hp) (by simp [sizeLine]) ⟨_, _, rfl, ⟨rfl, hz.2.2.1⟩, _, _, rfl, ⟨rfl, hz.2.2.2.1⟩, _, _, rfl, ⟨rfl, hz.2.2.2.2⟩, rfl⟩)⟩
    · cases hd
  · cases hd
theorem ee_join (ho : EE X c Wx o fo) (ha : EE X c Wx a fa) (hs : starEach [a] X.env = [(false, eval a X.env)] := by rfl) (hbase : attributeBase o "join" X.env (eval o X.env) = eval o X.env := by rfl) (hline : (apos.endLine == pos.line) = true := by rfl) :
    EE X c Wx (.Call (.Attribute o "join" apos) [a] [] pos) (sM1 joinG fo fa) := by
  refine ee_m1 (fun ho he => pe_join ho he hs hbase hline) ?_ ho ha
  intro W o σ H e m x y vx vy Q M rx ry h
  obtain ⟨d, hd, h⟩ := Post.fin h
  unfold joinG at hd
  have key : ∀ {s : Str} {l : List D} {p : Addr} {vs : List V}, joinT s l = some d → Reps X.K X.mg W l vs → (∀ ys : List Str, vs = ys.map .str → SqL X.K H p (ys.map V.str) ∨ SqT X.K H p (ys.map V.str)) →
      ∃ a q, ∃ ys : List Str, V.str s = .str a ∧ [V.ref p] = [.ref q] ∧ (SqL X.K H q (ys.map V.str) ∨ SqT X.K H q (ys.map V.str)) ∧ (ys.map (·.length)).sum + ys.length * a.length ≤ 16777216 ∧ Q (.str (Txt.join a ys)) H := by
    intro s l p vs hj r k
    unfold joinT at hj
    split at hj
    · rename_i ys hy
      have := strsO_is hy
      subst this
      split at hj
      · rename_i hz
        cases hj
        have e := reps_str_inv r
        refine ⟨s, p, ys, rfl, rfl, k ys e, hz.1, ?_⟩
        rw [TL.join_eq]
        exact Post.here h M ⟨rfl, hz.2⟩
      · cases hj
    · cases hj
  split at hd
  · obtain ⟨rfl, _⟩ := rx
    obtain ⟨p, vs, rfl, hp, hzr, r⟩ := ry
    exact key hd r fun ys e => .inl (by subst e; exact SqL.of (M.sub _ _ hp))
  · obtain ⟨rfl, _⟩ := rx
    obtain ⟨p, vs, rfl, hp, hzr, r⟩ := ry
    exact key hd r fun ys e => .inr (by subst e; exact SqT.of (M.sub _ _ hp))
  · cases hd
end
end Qd
end
section
set_option Elab.async false
set_option linter.all false
set_option autoImplicit false
set_option maxRecDepth 100000

/-! str, repr, bool and f-strings of own instances. -/
namespace PySem.W
open PySem PySem.Spec PyProof.Rows
open Builtin in
theorem qbool_call {prog : Program} {w : World} {A : Around} {E : Value → Shared → Prop} {s : Shared} {x : Addr} {Q : Value → Shared → Prop}
    (h : wpAny (model prog w) A.in1.in1 (truthy (.ref x)) (fun b s' => Q (.bool b) s') E s) : wpAny (model prog w) A (call (.type "bool") [.ref x]) Q E s := by
  refine callType_codes (T := "bool") (Bi := Builtin.«object.__init__») (Q₁ := fun r s₁ => ∃ b, r = .bool b ∧ Q r s₁) PySem.F.called_bool (PySem.F.typeCall_bool_1 _) PySem.F.entry_object_init ?_ ?_
  · refine codeAny_of_tree ?_
    show wpAny _ A.in1.in1 (do checkBuiltinCall "bool.__new__" ⟨[.type "bool", .ref x], []⟩; again (.builtin "bool.__new__" ⟨[.type "bool", .ref x], []⟩)) _ _ s
    refine wpAny_bind (wpAny_of_eq (PySem.F.newCall_bool_1 _) (wpAny_pure ⟨plainId_quiet (by decide +kernel) _, codeAny_builtin PySem.F.entry_bool_new ?_⟩))
    rw [Around.under_plainId (by decide +kernel) _]
    have f1 := F.conv_sub_bool
    have key : ∀ {R : Fin → Shared → Prop}, (wpAny (model prog w) A.in1.in1 (truthy (.ref x)) (fun b s' => R (.done (.ret (.bool b))) s') E s) → wpAny (model prog w) A.in1.in1 (Builtin.«bool.__new__» ⟨[.type "bool", .ref x], []⟩) R E s := by
      intro R k
      unfold Builtin.«bool.__new__»
      refine wpAny_bind (m := isType _) (wpAny_pure ?_)
      simp only [Bool.not_true, Bool.false_eq_true, if_false]
      refine wpAny_bind (wpAny_of_eq f1 ?_)
      simp only [Bool.not_true, Bool.false_eq_true, if_false]
      refine wpAny_bind (m := someArgs _ _ _ _) (wpAny_pure ?_)
      exact wpAny_bind (wpAny_mono k (fun b s' hb => wpAny_pure hb) fun _ _ y => y)
    exact key (wpAny_mono h (fun b s' hb => ⟨b, rfl, hb⟩) fun _ _ y => y)
  · rintro obj s₁ ⟨b, rfl, hq⟩
    exact ⟨typeIs_bool _ _, PySem.F.args_object_init_2 _ _, object_init_meets PySem.F.called_bool.init.lookup PySem.F.called_bool.made (by decide) prog w A.in1 _ s₁ ⟨typeIs_bool _ _, rfl, hq⟩⟩
end PySem.W
namespace Qd
open PySem PySem.Spec PyProof.Rows L2
def blB : D → Option D
  | .bl b => some (.bl b)
  | _ => none
def stB : D → Option D
  | .str s => some (.str s)
  | _ => none
def fldOf (K : PySem.W.Frag) (C : Addr) : Prop := PySem.W.findIn K (.ref C) "__format__" = some (some (.builtin "object.__format__")) ∧ PySem.W.mroIn K C (.type "object") = some true
section
variable {X : Cx} {CX : CXT} {c : C0} {Wx : WX} {E : XK} {k n : Nat} {g C : Addr} {sp : Sp} {f : FF} {cn : Str} {pos : Pos} {e o a b : Expr} {fa fb fo : FE}
def rOwnS (X : Cx) (C : Addr) (sp : Sp) (E : XK) : List V → Hp → VK → Prop := fun xs H Q => ∃ a dx fs, xs = [.ref a] ∧ H a = some (.ins C dx fs) ∧ sp [.ref a] H (fun v H' => ∃ z, v = .str z ∧ Q v H') E
def rOwnT (X : Cx) (C : Addr) (sp : Sp) (E : XK) : List V → Hp → VK → Prop := fun xs H Q => ∃ a dx fs, xs = [.ref a] ∧ H a = some (.ins C dx fs) ∧ sp [.ref a] H (fun v H' => ∃ z, v = .bl z ∧ Q v H') E
theorem call_ownStr (hM : Meth X.K C "__str__" g) (F : FnR X.prog X.w X.K X.mg X.base CX n g sp) (hr : Room (n + 2) X.A) (hx : Passes CX X E) : CallR X (.type "str") (rOwnS X C sp E) := by
  intro pins s σ H xs us Q I r h
  obtain ⟨a, dx, fs, rfl, ha, q⟩ := h
  obtain ⟨u, rfl, ru⟩ := r.one
  cases (show u = Value.ref a from ru)
  obtain ⟨mA, J, _⟩ := ins_get I.hok ha
  obtain ⟨od, J, _⟩ := J.look
  refine PySem.W.kso_call hr.in1.in1.units0 I.kIn J hM.at_ hM.fn (wpAny_mono (wpAny_call (SlX.run_at (us := [.ref a]) (ws := [.ref a]) F hr.in1.in1 I.env0.in1.in1 hx I (.cons rfl .nil) q)) (fun w s' z => ?_) fun _ _ x => x)
  obtain ⟨z', H', I', rz, k, rfl, qz⟩ := z
  obtain ⟨t, rfl⟩ := (show ∃ t, w = Value.str k t from rz)
  exact ⟨.str k, H', I', ⟨_, rfl⟩, qz⟩
theorem call_ownRepr (hM : Meth X.K C "__repr__" g) (F : FnR X.prog X.w X.K X.mg X.base CX n g sp) (hr : Room (n + 1) X.A) (hx : Passes CX X E) : CallR X (.builtin "repr") (rOwnS X C sp E) := by
  intro pins s σ H xs us Q I r h
  obtain ⟨a, dx, fs, rfl, ha, q⟩ := h
  obtain ⟨u, rfl, ru⟩ := r.one
  cases (show u = Value.ref a from ru)
  obtain ⟨mA, J, _⟩ := ins_get I.hok ha
  obtain ⟨od, J, _⟩ := J.look
  obtain ⟨m, hF⟩ := I.fr
  refine PySem.W.repr_K hr.in1.units0 hF I.ok.mod.kin J hM.at_ hM.fn (wpAny_mono (wpAny_call (SlX.run_at (us := [.ref a]) (ws := [.ref a]) F hr.in1 I.env0.in1 hx I (.cons rfl .nil) q)) (fun w s' z => ?_) fun _ _ x => x)
  obtain ⟨z', H', I', rz, k, rfl, qz⟩ := z
  obtain ⟨t, rfl⟩ := (show ∃ t, w = Value.str k t from rz)
  exact ⟨.str k, H', I', ⟨_, rfl⟩, qz⟩
theorem call_ownBool (hM : Meth X.K C "__bool__" g) (F : FnR X.prog X.w X.K X.mg X.base CX n g sp) (hr : Room (n + 2) X.A) (hx : Passes CX X E) : CallR X (.type "bool") (rOwnT X C sp E) := by
  intro pins s σ H xs us Q I r h
  obtain ⟨a, dx, fs, rfl, ha, q⟩ := h
  obtain ⟨u, rfl, ru⟩ := r.one
  cases (show u = Value.ref a from ru)
  obtain ⟨mA, J, _⟩ := ins_get I.hok ha
  obtain ⟨od, J, _⟩ := J.look
  obtain ⟨m, hF⟩ := I.fr
  refine PySem.W.qbool_call (PySem.W.truthy_K hF I.ok.mod.kin J hM.at_ hM.fn (wpAny_mono (wpAny_call (SlX.run_at (us := [.ref a]) (ws := [.ref a]) F hr.in1.in1 I.env0.in1.in1 hx I (.cons rfl .nil) q)) (fun w s' z => ?_) fun _ _ x => x))
  obtain ⟨z', H', I', rz, k, rfl, qz⟩ := z
  cases (show w = Value.bool k from rz)
  exact ⟨.bl k, H', I', rfl, qz⟩
/-- the field of an f-string that holds an instance -/
theorem pe_fmtOwn {te : TE} (hM : Meth X.K C "__str__" g) (hf : fldOf X.K C) (F : FnR X.prog X.w X.K X.mg X.base CX n g sp) (hr : Room (n + 1) X.A) (hx : Passes CX X E) (he : PE X e te) :
    PE X (.FormattedValue e (-1) none pos) (fun σ H Q => te σ H fun x H1 => ∃ a dx fs, x = .ref a ∧ H1 a = some (.ins C dx fs) ∧ sp [.ref a] H1 (fun v H' => ∃ z, v = .str z ∧ Q v H') E) := by
  refine ⟨fun pins s σ H Q I h => ?_⟩
  refine wpAny_FormattedValue_plain (thn (he.run pins s σ H _ I h) fun v s1 hv => ?_)
  obtain ⟨x, H1, I1, r1, a, dx, fs, rfl, ha, q⟩ := hv
  cases (show v = Value.ref a from r1)
  obtain ⟨mA, J, _⟩ := ins_get I1.hok ha
  obtain ⟨od, J, _⟩ := J.look
  refine PySem.W.kfo_fieldS hr.in1.units0 I1.kIn J hf.1 hf.2 hM.at_ hM.fn (wpAny_mono (wpAny_call (SlX.run_at (us := [.ref a]) (ws := [.ref a]) F hr.in1 (I1.tok (s1.toks + 1)).env0.in1 hx (I1.tok (s1.toks + 1)) (.cons rfl .nil) q)) (fun w s' z => ?_) fun _ _ x => x)
  obtain ⟨z', H', I', rz, k, rfl, qz⟩ := z
  obtain ⟨t, rfl⟩ := (show ∃ t, w = Value.str k t from rz)
  exact ⟨.str k, H', I', ⟨_, rfl⟩, qz⟩
def ownA1 (h : D → Option D) (cn : Str) (f : FF) : List D → Env → MS → R D := fun xs e m => match xs with
  | [x] => if insIs cn "" x then mapD h ((f [x] m).atE e) else .no
  | _ => .no
def ownF1 (cn : Str) (f : FF) : D → Env → MS → R D := fun x e m => if insIs cn "" x then mapD stB ((f [x] m).atE e) else .no
variable {p : Pos} {y1 : Expr} {f' : FA}
theorem cd_ownS (hm : X.mg cn = some (.ref C)) (hx : PX X Wx E) : CaD X c Wx (rOwnS X C (spD X.K X.mg f) E) (ownA1 stB cn f) := by
  intro W o σ H e m xs vs Q M rx h
  unfold ownA1 at h
  split at h
  · rename_i x
    split at h
    · rename_i h1
      obtain ⟨v, rfl, r⟩ := rx.one_inv
      obtain ⟨a, dx, fs, rfl, hH, _⟩ := insIs_rep M h1 hm r
      refine ⟨a, dx, fs, rfl, hH, spD_of (ds := [x]) M ⟨_, _, rfl, r, rfl⟩ (fun cls d H => hx.2 cls d σ H) ((Post.mapD h).mono fun v H1 ⟨W1, o1, e1, m1, d, d', u1, M1, r1, hd, h1⟩ => ?_)⟩
      cases d with
      | str k =>
        cases hd
        obtain ⟨rfl, hk⟩ := r1
        exact ⟨k, rfl, Post.here h1 M1 ⟨rfl, hk⟩⟩
      | _ => cases hd
    · exact h.elim
  · exact h.elim
theorem cd_ownT (hm : X.mg cn = some (.ref C)) (hx : PX X Wx E) : CaD X c Wx (rOwnT X C (spD X.K X.mg f) E) (ownA1 blB cn f) := by
  intro W o σ H e m xs vs Q M rx h
  unfold ownA1 at h
  split at h
  · rename_i x
    split at h
    · rename_i h1
      obtain ⟨v, rfl, r⟩ := rx.one_inv
      obtain ⟨a, dx, fs, rfl, hH, _⟩ := insIs_rep M h1 hm r
      refine ⟨a, dx, fs, rfl, hH, spD_of (ds := [x]) M ⟨_, _, rfl, r, rfl⟩ (fun cls d H => hx.2 cls d σ H) ((Post.mapD h).mono fun v H1 ⟨W1, o1, e1, m1, d, d', u1, M1, r1, hd, h1⟩ => ?_)⟩
      cases d with
      | bl k =>
        cases hd
        cases (show v = V.bl k from r1)
        exact ⟨k, rfl, Post.here h1 M1 rfl⟩
      | _ => cases hd
    · exact h.elim
  · exact h.elim
theorem ee_ownStr (hm : X.mg cn = some (.ref C)) (hM : Meth X.K C "__str__" g) (F : FDX X k g f) (hr : Room (k + 2) X.A) (hx : PX X Wx E) (hgl : Gl X "str") (hml : X.mg "str" = none) (ha : EA X c Wx [y1] f') (he : starEach [y1] X.env = (false, eval y1 X.env) :: starEach [] X.env := by rfl) (hpl : (backTo pos (starEach [] X.env)).any (·.1) = false := by rfl) :
    EE X c Wx (.Call (.Name "str" p) [y1] [] pos) (xA f' (ownA1 stB cn f)) := ee_callT (call_ownStr hM F hr hx.1) (by decide +kernel) (cd_ownS hm hx) hgl hml ha (by decide) (by decide) he hpl
theorem ee_ownRepr (hm : X.mg cn = some (.ref C)) (hM : Meth X.K C "__repr__" g) (F : FDX X k g f) (hr : Room (k + 1) X.A) (hx : PX X Wx E) (hgl : Gl X "repr") (hml : X.mg "repr" = none) (ha : EA X c Wx [y1] f') (he : starEach [y1] X.env = (false, eval y1 X.env) :: starEach [] X.env := by rfl) (hpl : (backTo pos (starEach [] X.env)).any (·.1) = false := by rfl) :
    EE X c Wx (.Call (.Name "repr" p) [y1] [] pos) (xA f' (ownA1 stB cn f)) := ee_callB (call_ownRepr hM F hr hx.1) (by decide +kernel) (cd_ownS hm hx) hgl hml ha (by decide) (by decide) he hpl
theorem ee_ownBool (hm : X.mg cn = some (.ref C)) (hM : Meth X.K C "__bool__" g) (F : FDX X k g f) (hr : Room (k + 2) X.A) (hx : PX X Wx E) (hgl : Gl X "bool") (hml : X.mg "bool" = none) (ha : EA X c Wx [y1] f') (he : starEach [y1] X.env = (false, eval y1 X.env) :: starEach [] X.env := by rfl) (hpl : (backTo pos (starEach [] X.env)).any (·.1) = false := by rfl) :
    EE X c Wx (.Call (.Name "bool" p) [y1] [] pos) (xA f' (ownA1 blB cn f)) := ee_callT (call_ownBool hM F hr hx.1) (by decide +kernel) (cd_ownT hm hx) hgl hml ha (by decide) (by decide) he hpl
/-! ### f-strings -/
theorem ee_fmtOwn (hm : X.mg cn = some (.ref C)) (hM : Meth X.K C "__str__" g) (hf : fldOf X.K C) (F : FDX X k g f) (hr : Room (k + 1) X.A) (hx : PX X Wx E) (ha : EE X c Wx a fa) : EE X c Wx (.FormattedValue a (-1) none pos) (x1 fa (ownF1 cn f)) :=
  (pe_fmtOwn hM hf F hr hx.1 ha).impQ fun σ H Q ⟨W, o, e, m, M, h⟩ => ⟨W, o, e, m, M, (Post.bind h).mono fun v H1 ⟨W1, o1, e1, m1, d1, u1, M1, r1, h1⟩ => by
    unfold ownF1 at h1
    split at h1
    · rename_i hi
      obtain ⟨a, dx, fs, rfl, hH, _⟩ := insIs_rep M1 hi hm r1
      refine ⟨a, dx, fs, rfl, hH, spD_of (ds := [d1]) M1 ⟨_, _, rfl, r1, rfl⟩ (fun cls d H => hx.2 cls d σ H) ((Post.mapD h1).mono fun v H1 ⟨W1, o1, e1, m1, d, d', u1, M1, r1, hd, h1⟩ => ?_)⟩
      cases d with
      | str k =>
        cases hd
        obtain ⟨rfl, hk⟩ := r1
        exact ⟨k, rfl, Post.here h1 M1 ⟨rfl, hk⟩⟩
      | _ => cases hd
    · exact h1.elim⟩
def fmtB : D → Option D
  | .str y => some (.str y)
  | .int i => if i.natAbs.log2 < 1920 ∧ okS (Str.ofString (toString i)) = true then some (.str (Str.ofString (toString i))) else none
  | _ => none
theorem ee_fmt (ha : EE X c Wx a fa) : EE X c Wx (.FormattedValue a (-1) none pos) (x1 fa (pur1 fmtB)) :=
  (pe_fmt ha).impQ fun σ H Q ⟨W, o, e, m, M, h⟩ => ⟨W, o, e, m, M, (Post.bind h).mono fun v H1 ⟨W1, o1, e1, m1, d1, u1, M1, r1, h1⟩ => by
    obtain ⟨d, hd, h2⟩ := Post.fin h1
    unfold fmtB at hd
    split at hd
    · cases hd
      obtain ⟨rfl, hk⟩ := r1
      exact .inl ⟨_, rfl, okS_len hk, Post.here h2 M1 ⟨rfl, hk⟩⟩
    · split at hd
      · rename_i hz
        cases hd
        cases r1
        exact .inr ⟨_, rfl, hz.1, Post.here h2 M1 ⟨rfl, hz.2⟩⟩
      · cases hd
    · cases hd⟩
/-- the parts of an f-string -/
inductive EJ (X : Cx) (c : C0) (Wx : WX) : List Expr → List FE → Prop where
  | nil : EJ X c Wx [] []
  | cons {e : Expr} {f : FE} {es : List Expr} {fs : List FE} (h : EE X c Wx e f) (r : EJ X c Wx es fs) : EJ X c Wx (e :: es) (f :: fs)
def fJs : List FE → Str → FE
  | [], acc => fun e m => if okS acc = true then .ok (.str acc) e m else .no
  | f :: fs, acc => fun e m => (f e m).bind fun d e m => match d with
    | .str y => if (acc ++ y).length ≤ sizeLine then fJs fs (acc ++ y) e m else .no
    | _ => .no
theorem EJ.pj {es : List Expr} {fs : List FE} (h : EJ X c Wx es fs) : PJ X es (fs.map (tE X.K X.mg c Wx)) := by
  induction h with
  | nil => exact .nil
  | cons h r ih => exact .cons h ih
theorem fJs_ok {σ : L2.St} {Q : VK} : ∀ {fs : List FE} {acc : Str} {W : Wd} {o : Nat → Option Addr} {H : Hp} {e : Env} {m : MS}, Mt X.K X.mg c W o σ H e m → Post X.K X.mg c W σ (Rep X.K X.mg) Q Wx (fJs fs acc e m) → tJs (fs.map (tE X.K X.mg c Wx)) acc σ H fun out H1 => Q (.str out) H1
  | [], acc, W, o, H, e, m, M, h => by
    unfold fJs at h
    split at h
    · rename_i hk
      exact Post.here h M ⟨rfl, hk⟩
    · exact h.elim
  | f :: fs, acc, W, o, H, e, m, M, h => by
    unfold fJs at h
    refine ⟨W, o, e, m, M, (Post.bind h).mono fun v H1 ⟨W1, o1, e1, m1, d1, u1, M1, r1, h1⟩ => ?_⟩
    cases d1 with
    | str y =>
      obtain ⟨rfl, hk⟩ := r1
      dsimp only at h1
      split at h1
      · rename_i hz
        exact ⟨y, rfl, hz, fJs_ok M1 h1⟩
      · exact h1.elim
    | _ => exact h1.elim
theorem ee_joined {v1 v2 : Expr} {rest : List Expr} {fs : List FE} (h : EJ X c Wx (v1 :: v2 :: rest) fs) : EE X c Wx (.JoinedStr (v1 :: v2 :: rest) pos) (fJs fs Str.empty) :=
  (pe_joined h.pj).impQ fun σ H Q ⟨W, o, e, m, M, h⟩ => fJs_ok M h
theorem ee_joined1 (ha : EE X c Wx a fa) : EE X c Wx (.JoinedStr [a] pos) fa := pe_joined1 ha
end
end Qd
end
section
set_option Elab.async false
set_option linter.all false
set_option autoImplicit false
set_option maxRecDepth 100000

/-! C(k = v, ..), C(e, .., k = v, ..). -/
namespace Qd
open PySem PySem.Spec PyProof.Rows L2
theorem permL_self {α : Type} (a : α) (us ws : List α) (idx : List Nat) : permL (0 :: idx.map (· + 1)) (a :: us) ws = a :: permL idx us ws := by
  unfold permL
  rw [List.filterMap_cons]
  show a :: _ = _
  congr 1
  rw [List.filterMap_map]
  rfl
section
variable {X : Cx} {CX : CXT} {c : C0} {Wx : WX} {k n : Nat} {f C : Addr} {ks : List Str} {sp : Sp} {E : XK} {x cn : Str} {p pos : Pos} {e : Expr} {es : List Expr} {kws : List Keyword} {t tk : TA} {idx : List Nat}
def tMakeR (C : Addr) (n m : Nat) (idx : List Nat) (sp : Sp) (E : XK) (t tk : TA) : TE := fun σ H Q => t σ H fun vs H1 => tk σ H1 fun zs H2 => vs.length = n ∧ zs.length = m ∧ ∀ x dx, H2 x = none → H2 dx = none → dx ≠ x →
  sp (.ref x :: permL idx vs zs) (upd (upd H2 dx (.own x)) x (.ins C dx [])) (fun v H3 => v = .non ∧ Q (.ref x) H3) E
theorem run_makeRK {pins : List (Addr × Obj)} {σ : L2.St} {H : Hp} {s : Shared} {Q : VK} {us ws : List Value} {vs zs : List V} (M : Mk X.K C f) (F : FnRK X.prog X.w X.K X.mg X.base CX k f (n + 1) ks (0 :: idx.map (· + 1)) sp) (hr : Room (k + 1) X.A) (hx : Passes CX X E)
    (I : Inv X pins σ H s) (r : Vals vs us) (rz : Vals zs ws) (l1 : vs.length = n) (l2 : zs.length = ks.length)
    (h : ∀ x dx, H x = none → H dx = none → dx ≠ x → sp (.ref x :: permL idx vs zs) (upd (upd H dx (.own x)) x (.ins C dx [])) (fun v H2 => v = .non ∧ Q (.ref x) H2) E) :
    wpAny (model X.prog X.w) X.A (call (.ref C) us (ks.zip ws)) (EP X pins σ Q) X.xe s := by
  have hq := h (s.heap.objs.size + 1) s.heap.objs.size (I.hok.fresh (Nat.le_succ _)) (I.hok.fresh (Nat.le_refl _)) (Nat.ne_of_lt (Nat.lt_succ_self _))
  have I2 := Inv.made (C := C) I
  have r1 : Vals (V.ref (s.heap.objs.size + 1) :: vs) (Value.ref (s.heap.objs.size + 1) :: us) := .cons rfl r
  refine wpAny_call (make_map (f := f) I.kIn M.makes M.init (beq_iff_eq.mp M.fn) (codeAny_mono (F _ X.stack _ _ (Value.ref (s.heap.objs.size + 1) :: us) ws (V.ref (s.heap.objs.size + 1) :: vs) zs _ E (hr.make C us (ks.zip ws))
    (I2.env0.make C us (ks.zip ws)) r1 rz (by rw [List.length_cons, l1]) l2 (by rw [permL_self]; exact hq)) fun r s' hq' => ?_))
  cases r with
  | error e => exact hx pins σ _ _ e s' I2 hq'
  | ok fl =>
    cases fl with
    | ret u =>
      obtain ⟨v, H', I3, rv, ev, q3⟩ := I2.after hq'
      subst ev
      exact ⟨rv, ⟨V.ref (s.heap.objs.size + 1), H', I3, rfl, q3⟩⟩
    | next => exact False.elim hq'
    | brk => exact False.elim hq'
    | cont => exact False.elim hq'
theorem pe_makeRK0 (M : Mk X.K C f) (F : FnRK X.prog X.w X.K X.mg X.base CX k f 1 ks (0 :: idx.map (· + 1)) sp) (hr : Room (k + 1) X.A) (hg : Gl X x) (hm : X.mg x = some (.ref C)) (hx : Passes CX X E) (hkw : PK X kws tk)
    (hall : (backToKw pos (keywordEach kws X.env)).all (·.1.isSome) = true := by rfl) (hks : (backToKw pos (keywordEach kws X.env)).filterMap (·.1) = ks := by rfl) (hdb : (x == ("__debug__" : Str)) = false := by decide)
    (hpl : ((backTo pos (starEach [] X.env)).any (·.1) || (backToKw pos (keywordEach kws X.env)).any (·.1.isNone)) = false := by rfl) :
    PE X (.Call (.Name x p) [] kws pos) (tMakeR C 0 ks.length idx sp E tNil tk) := by
  refine ⟨fun pins s σ H Q I h => ?_⟩
  refine wpAny_Call_Name_kw (ld_glob I hg hm ?_ hdb)
  refine PySem.W.callWith_KW0 (h₀ := X.base) I.ok.mod.kin M.kp hall ?_ hpl
  refine thn (hkw.run pos pins s σ H _ I h) fun ws s2 ⟨zs, H2, I2, rz, l1, l2, q2⟩ => ⟨I2.kIn, ?_⟩
  rw [hks]
  exact run_makeRK (us := []) (vs := []) M F hr hx I2 .nil rz rfl l2 q2
theorem pe_makeRK (M : Mk X.K C f) (F : FnRK X.prog X.w X.K X.mg X.base CX k f (n + 1) ks (0 :: idx.map (· + 1)) sp) (hr : Room (k + 1) X.A) (hg : Gl X x) (hm : X.mg x = some (.ref C)) (hx : Passes CX X E) (ha : PA X (e :: es) t) (hkw : PK X kws tk)
    (hall : (backToKw pos (keywordEach kws X.env)).all (·.1.isSome) = true := by rfl) (hks : (backToKw pos (keywordEach kws X.env)).filterMap (·.1) = ks := by rfl) (hdb : (x == ("__debug__" : Str)) = false := by decide)
    (he : starEach (e :: es) X.env = (false, eval e X.env) :: starEach es X.env := by rfl) (hpl : ((backTo pos (starEach (e :: es) X.env)).any (·.1) || (backToKw pos (keywordEach kws X.env)).any (·.1.isNone)) = false := by rfl) :
    PE X (.Call (.Name x p) (e :: es) kws pos) (tMakeR C n ks.length idx sp E t tk) := by
  refine ⟨fun pins s σ H Q I h => ?_⟩
  refine wpAny_Call_Name_kw (ld_glob I hg hm ?_ hdb)
  refine PySem.W.callWith_KW (h₀ := X.base) I.ok.mod.kin M.kp hall (thn (ha.run pos pins s σ H _ I h) fun us s1 ⟨vs, H1, I1, r, q⟩ => ?_) hpl he
  refine thn (hkw.run pos pins s1 σ H1 _ I1 q) fun ws s2 ⟨zs, H2, I2, rz, l1, l2, q2⟩ => ⟨I2.kIn, ?_⟩
  rw [hks]
  exact run_makeRK M F hr hx I2 r rz l1 l2 q2
abbrev FIKX (X : Cx) (k n : Nat) (ks : List Str) (idx : List Nat) (g : Addr) (cn : Str) (fi : FI) : Prop := FnRK X.prog X.w X.K X.mg X.base (L2.CX X.prog X.w) k g (n + 1) ks (0 :: idx.map (· + 1)) (spI X.K X.mg cn fi)
def xMakeK (cn : Str) (n : Nat) (idx : List Nat) (gi : FI) (fk : FA) : FE := fun e m => (fk e m).bind fun ds e m => if ds.length = n then madeG cn gi (permL idx [] ds) e m else .no
theorem ee_makeK {fi : FI} {fk : FA} (hM : Mk X.K C f) (F : FIKX X k 0 ks idx f cn fi) (hr : Room (k + 1) X.A) (hg : Gl X cn) (hm : X.mg cn = some (.ref C)) (hx : PX X Wx E) (hkw : EK X c Wx kws fk)
    (hall : (backToKw pos (keywordEach kws X.env)).all (·.1.isSome) = true := by rfl) (hks : (backToKw pos (keywordEach kws X.env)).filterMap (·.1) = ks := by rfl) (hdb : (cn == ("__debug__" : Str)) = false := by decide)
    (hpl : ((backTo pos (starEach [] X.env)).any (·.1) || (backToKw pos (keywordEach kws X.env)).any (·.1.isNone)) = false := by rfl) : EE X c Wx (.Call (.Name cn p) [] kws pos) (xMakeK cn ks.length idx fi fk) :=
  (pe_makeRK0 hM F hr hg hm hx.1 hkw hall hks hdb hpl).impQ fun σ H Q ⟨W, o, e, m, M, h⟩ => by
    show tA X.K X.mg c Wx fk σ H _
    refine ⟨W, o, e, m, M, (Post.bind (Rp := Reps X.K X.mg) h).mono fun vs H1 ⟨W1, o1, e1, m1, ds, u1, M1, r1, h1⟩ => ?_⟩
    split at h1
    · rename_i hn
      exact ⟨rfl, by rw [← r1.len]; exact hn, fun a dx ha hd ne => spI_of M1 (Reps.perm (ds := []) (vs := []) rfl r1 idx) hm (fun cls d H => hx.2 cls d σ H) h1 ha hd ne⟩
    · exact h1.elim
def xMakeP (cn : Str) (n l : Nat) (idx : List Nat) (gi : FI) (fa fk : FA) : FE := fun e m => (fa e m).bind fun cs e m => (fk e m).bind fun ds e m => if cs.length = n ∧ ds.length = l then madeG cn gi (permL idx cs ds) e m else .no
theorem ee_makeP {fi : FI} {fa fk : FA} (hM : Mk X.K C f) (F : FIKX X k n ks idx f cn fi) (hr : Room (k + 1) X.A) (hg : Gl X cn) (hm : X.mg cn = some (.ref C)) (hx : PX X Wx E) (ha : EA X c Wx (e :: es) fa) (hkw : EK X c Wx kws fk)
    (hall : (backToKw pos (keywordEach kws X.env)).all (·.1.isSome) = true := by rfl) (hks : (backToKw pos (keywordEach kws X.env)).filterMap (·.1) = ks := by rfl) (hdb : (cn == ("__debug__" : Str)) = false := by decide)
    (he : starEach (e :: es) X.env = (false, eval e X.env) :: starEach es X.env := by rfl) (hpl : ((backTo pos (starEach (e :: es) X.env)).any (·.1) || (backToKw pos (keywordEach kws X.env)).any (·.1.isNone)) = false := by rfl) : EE X c Wx (.Call (.Name cn p) (e :: es) kws pos) (xMakeP cn n ks.length idx fi fa fk) :=
  (pe_makeRK hM F hr hg hm hx.1 ha hkw hall hks hdb he hpl).impQ fun σ H Q ⟨W, o, e, m, M, h⟩ => by
    show tA X.K X.mg c Wx fa σ H _
    refine ⟨W, o, e, m, M, (Post.bind (Rp := Reps X.K X.mg) h).mono fun vs H1 ⟨W1, o1, e1, m1, cs, u1, M1, r1, h1⟩ => ?_⟩
    show tA X.K X.mg c Wx fk σ H1 _
    refine ⟨W1, o1, e1, m1, M1, (Post.bind (Rp := Reps X.K X.mg) h1).mono fun ws H2 ⟨W2, o2, e2, m2, ds, u2, M2, r2, h2⟩ => ?_⟩
    split at h2
    · rename_i hn
      exact ⟨by rw [← r1.len]; exact hn.1, by rw [← r2.len]; exact hn.2, fun a dx ha hd ne => spI_of M2 (Reps.perm (r1.up u2) r2 idx) hm (fun cls d H => hx.2 cls d σ H) h2 ha hd ne⟩
    · exact h2.elim
/-! ### a fact -/
def fldB (x : Str) : FactQ := fun K => He.eqO (PySem.W.findIn K (.ref (He.ga K x)) "__format__") (some (some (.builtin "object.__format__"))) && (PySem.W.mroIn K (He.ga K x) (.type "object") == some true)
theorem TopQ.fldq {fa : List FactQ} {fn : List DefQ} {K : PySem.W.Frag} {mg : Str → Option Value} (c : TopQ fa fn K mg) (i : Nat) {x : Str} (h : fa[i]? = some (fldB x) := by rfl) : fldOf K (He.ga K x) := by
  obtain ⟨h1, h2⟩ := Bool.and_eq_true_iff.mp (c.fact i h)
  exact ⟨He.eqO_ok h1, beq_iff_eq.mp h2⟩
/-! ### {} -/
def xDict0 : FE := fun e m => .ok (.dic [] []) e m
theorem ee_dict0 : EE X c Wx (.Dict [] [] pos) xDict0 :=
  pe_dnewK.impQ fun σ H Q ⟨W, o, e, m, M, h⟩ => fun p hp => Post.new h M hp ⟨p, [], rfl, .inl upd_same, by simp [KeysD], rfl⟩
end
end Qd
end
section
set_option Elab.async false
set_option linter.all false
set_option autoImplicit false
set_option maxRecDepth 100000

/-! while. -/
namespace Qd
open PySem PySem.Spec PyProof.Rows L2
def runWh (t : FT) (body : FS) : Nat → Env → MS → U
  | 0, _, _ => .no
  | n + 1, e, m => (t e m).thn fun b e m => if b then (match body e m with
      | .nx e2 m2 => runWh t body n e2 m2
      | .ct e2 m2 => runWh t body n e2 m2
      | .bk e2 m2 => .nx e2 m2
      | .rt d e2 m2 => .rt d e2 m2
      | .ex n ns vs e2 m2 => .ex n ns vs e2 m2
      | .no => .no) else .nx e m
open Classical in
/-- as many turns as it takes -/
noncomputable def sWh (t : FT) (body : FS) : FS := fun e m => if h : ∃ n, runWh t body n e m ≠ .no then runWh t body h.choose e m else .no
theorem runWh_up (t : FT) (body : FS) : ∀ (n k : Nat) (e : Env) (m : MS), runWh t body n e m ≠ .no → runWh t body (n + k) e m = runWh t body n e m
  | 0, k, e, m, h => absurd rfl h
  | n + 1, k, e, m, h => by
    have e1 : n + 1 + k = (n + k) + 1 := by omega
    rw [e1]
    unfold runWh at h ⊢
    cases q : t e m with
    | ok b e2 m2 =>
      rw [q] at h
      simp only [R.thn_ok] at h ⊢
      cases b with
      | false => rfl
      | true =>
        rw [if_pos rfl] at h ⊢
        rw [if_pos rfl]
        cases q2 : body e2 m2 with
        | nx e3 m3 =>
          rw [q2] at h
          exact runWh_up t body n k e3 m3 h
        | ct e3 m3 =>
          rw [q2] at h
          exact runWh_up t body n k e3 m3 h
        | bk e3 m3 => rfl
        | rt d e3 m3 => rfl
        | ex nm ns vs e3 m3 => rfl
        | no => rfl
    | ex nm ns vs e2 m2 => rfl
    | no => rfl
theorem sWh_is {t : FT} {body : FS} {n : Nat} {e : Env} {m : MS} (h : runWh t body n e m ≠ .no) : sWh t body e m = runWh t body n e m := by
  have hx : ∃ n, runWh t body n e m ≠ .no := ⟨n, h⟩
  unfold sWh
  rw [dif_pos hx]
  have hc := hx.choose_spec
  rcases Nat.le_total hx.choose n with k | k
  · obtain ⟨d, hd⟩ := Nat.exists_eq_add_of_le k
    rw [hd] at h ⊢
    exact (runWh_up t body _ d e m hc).symm
  · obtain ⟨d, hd⟩ := Nat.exists_eq_add_of_le k
    have := runWh_up t body n d e m h
    rw [← hd] at this
    exact this
section
variable {X : Cx} {c : C0} {Wx : WX} {pos : Pos} {x : Expr}
theorem ss_while {body : List Stmt} {t : FT} {fb : FS} (hp : PassesOwn (model X.prog X.w) X.A X.env X.xe) (hc : ET X c Wx x t) (hb : SSs X c Wx body fb) : SS X c Wx (.While x body [] pos) (sWh t fb) :=
  (ps_while hp hc hb).impQ fun Dn σ H ⟨W, o, e, m, M, h⟩ => by
    unfold sWh at h
    split at h
    · rename_i hx
      generalize hx.choose = n at h
      refine ⟨fun k σ H => ∃ W2 o2 e2 m2, Up W W2 ∧ Mt X.K X.mg c W2 o2 σ H e2 m2 ∧ PostS X.K X.mg c W2 Dn Wx (runWh t fb k e2 m2), ⟨n, W, o, e, m, Up.refl W, M, h⟩, ?_⟩
      rintro k σ1 H1 ⟨W2, o2, e2, m2, u2, M2, h2⟩
      cases k with
      | zero => exact h2.elim
      | succ k =>
        unfold runWh at h2
        refine ⟨W2, o2, e2, m2, M2, (PostS.thn h2).mono fun b H3 ⟨W3, o3, e3, m3, d3, u3, M3, r3, h3⟩ => ?_⟩
        have hb3 : d3 = b := r3
        subst hb3
        cases d3 with
        | false =>
          rw [if_neg (by decide)] at h3 ⊢
          exact h3 W3 o3 _ H3 (Up.refl W3) M3
        | true =>
          rw [if_pos rfl] at h3 ⊢
          refine ⟨fun σ' H' => ∃ W2 o2 e2 m2, Up W W2 ∧ Mt X.K X.mg c W2 o2 σ' H' e2 m2 ∧ PostS X.K X.mg c W2 Dn Wx (runWh t fb k e2 m2), fun σ' H' z => ⟨k, by omega, z⟩, W3, o3, e3, m3, M3, ?_⟩
          cases q : fb e3 m3 with
          | nx e5 m5 =>
            rw [q] at h3
            intro W5 o5 σ5 H5 u5 M5
            exact ⟨W5, o5, _, m5, (u2.trans u3).trans u5, M5, PostS.up u5 h3⟩
          | ct e5 m5 =>
            rw [q] at h3
            intro W5 o5 σ5 H5 u5 M5
            exact ⟨W5, o5, _, m5, (u2.trans u3).trans u5, M5, PostS.up u5 h3⟩
          | bk e5 m5 =>
            rw [q] at h3
            exact h3
          | rt d5 e5 m5 =>
            rw [q] at h3
            exact h3
          | ex n5 ns5 vs5 e5 m5 =>
            rw [q] at h3
            exact h3
          | no =>
            rw [q] at h3
            exact h3.elim
    · exact h.elim
end
end Qd
end
section
set_option Elab.async false
set_option linter.all false
set_option autoImplicit false
set_option maxRecDepth 100000

/-! Defaults of __init__. -/
namespace Qd
open PySem PySem.Spec PyProof.Rows L2
def dfQD (a : PySem.W.Frag → Addr) (name qual : Str) (st : Stmt) (dvs : List He.Dv) : DefQ := ⟨a, name, qual, defArgs st, defBody st, defScope st, dvs, []⟩
theorem TopQ.dfD {fa : List FactQ} {fn : List DefQ} {K : PySem.W.Frag} {mg : Str → Option Value} (c : TopQ fa fn K mg) (i : Nat) {a : PySem.W.Frag → Addr} {name qual : Str} {st : Stmt} {dvs : List He.Dv} (h : fn[i]? = some (dfQD a name qual st dvs) := by rfl) : ∃ fd, FunD K name qual (defArgs st) (defBody st) (defScope st) (dvs.map (He.Dv.v K)) [] (a K) fd :=
  c.def_ i h
section
variable {P : Program} {w : World} {K : PySem.W.Frag} {mg : Str → Option Value} {base : Heap}
theorem fn_initD {x qual : Str} {st : Stmt} {g : Addr} {fd : FuncData} {N ps : List Str} {k : Nat} {fs : FS} {cn : Str} {dvs : List V} (F : FunD K x qual (defArgs st) (defBody st) (defScope st) dvs [] g fd) (S : FnScope N ps (defScope st)) (hN : ps.length ≤ N.length)
    (hbody : ∀ (c : C0) (cdv : Value) (A : Around) (outer : List PySem.Env) (s : Shared) (H : Hp) (E : XK), Room k (A.deeper (envOfC qual (defScope st) s.heap.objs.size g cdv)) →
      SSs (cxOf (L2.CX P w) P w K mg base N qual (defScope st) g cdv A outer s H E) c (fun cls d _ H => E cls d H) (defBody st) fs) :
    FnOk P w K mg base (L2.CX P w) (k + 1) g fd ps (spI K mg cn (initF cn ps.length N.length fs)) := by
  refine FunD.ok F S (fun vs H Q E h => spI_len h) fun cdv A outer s H vs Q E hr h => ?_
  have hlen := spI_len h
  obtain ⟨W, m, ds, ws, x, dx, C, H1, rfl, hC, hx, hd, ne, rfl, M, r, h⟩ := h
  unfold initF at h
  split at h
  case isFalse => exact h.elim
  rename_i hl
  have B := M.born (k := N.length - ps.length) r hC hx hd ne
  refine ⟨_, hbody ⟨W.P, W.r, H1⟩ cdv A outer s _ E hr, bornW W x dx, _, some (.oi cn [] []) :: (ds.map (fun d => some (.fz d)) ++ List.replicate (N.length - ps.length) none), m, (by rw [start_is hlen]; exact B), ?_⟩
  cases q : fs (some (.oi cn [] []) :: (ds.map (fun d => some (.fz d)) ++ List.replicate (N.length - ps.length) none)) m with
  | nx e m1 =>
    rw [q] at h
    intro W' o' σ' H' u N'
    rcases insOf_is cn e m1 with z | ⟨p, z⟩
    · simp only [z] at h
      exact h.elim
    · simp only [z] at h
      obtain ⟨W2, u2, N2, r2⟩ := N'.settle z u (M.newP hd)
      exact h W2 none0 H' (.ref x) u2 N2 r2 rfl
  | rt d e m1 =>
    rw [q] at h
    intro W' o' σ' H' v u N' rv
    cases d with
    | non =>
      cases rv
      rcases insOf_is cn e m1 with z | ⟨p, z⟩
      · simp only [z] at h
        exact h.elim
      · simp only [z] at h
        obtain ⟨W2, u2, N2, r2⟩ := N'.settle z u (M.newP hd)
        exact h W2 none0 H' (.ref x) u2 N2 r2 rfl
    | _ => exact h.elim
  | bk e m1 => rw [q] at h; exact h.elim
  | ct e m1 => rw [q] at h; exact h.elim
  | ex nm ns vs e m1 =>
    rw [q] at h
    intro W' o' σ' H' C' dd u N' h1 h2
    have u3 : Up W ⟨W'.P, W'.r, W.me⟩ := ⟨fun b z q => u.P b z (by
        show (upd W.P dx (.own x)) b = some z
        rw [upd_ne fun y => by rw [y, M.newP hd] at q; cases q]
        exact q), u.r, rfl⟩
    refine h ⟨W'.P, W'.r, W.me⟩ none0 H' C' dd u3 (N'.bare.reme W.me) h1 ?_
    obtain ⟨us, a1, a2, a3⟩ := h2
    exact ⟨us, Reps.reme _ a1, a2, a3⟩
  | no => rw [q] at h; exact h.elim
/-- the last values by default -/
def dflI (f : FI) (dd : List D) : FI := fun ds m => f (ds ++ dd) m
theorem spI_dfl {cn : Str} {f : FI} {dd : List D} {zs vs : List V} {H : Hp} {Q : VK} {E : XK} (hz : ∀ W : Wd, Reps K mg W dd zs) (h : spI K mg cn (dflI f dd) vs H Q E) : spI K mg cn f (vs ++ zs) H Q E := by
  obtain ⟨W, m, ds, ws, x, dx, C, H1, rfl, h1, h2, h3, h4, h5, h6, h7, h8⟩ := h
  exact ⟨W, m, ds ++ dd, ws ++ zs, x, dx, C, H1, rfl, h1, h2, h3, h4, h5, h6, h7.append (hz W), h8⟩
theorem fn_initK {cn : Str} {f : FI} {dd : List D} {zs : List V} {k : Nat} {g : Addr} {fd : FuncData} {ps : List Str} {ds : List Value} (F : FnOk P w K mg base (L2.CX P w) k g fd ps (spI K mg cn f)) (hb : Binds K fd ps ds) (hd : Vals zs ds) (hz : ∀ W : Wd, Reps K mg W dd zs) :
    FnR P w K mg base (L2.CX P w) k g (spI K mg cn (dflI f dd)) := (F.raw hb hd).imp fun vs H Q E h => spI_dfl hz h

end
end Qd
end
section
set_option Elab.async false
set_option linter.all false
set_option autoImplicit false
set_option maxRecDepth 100000

/-! range(i, j, -1). -/
namespace Qd
open PySem PySem.Spec PyProof.Rows L2
def rangeN (lo hi : Int) : List D := (List.range (lo - hi).toNat).map fun i => .int (lo + (i : Nat) * (-1))
theorem rangeN_len (lo hi : Int) : (rangeN lo hi).length = (lo - hi).toNat := by
  unfold rangeN
  rw [List.length_map, List.length_range]
def rng3G : List D → Env → MS → R (List D) := fun ds e m => match ds with
  | [.int i, .int j, .int k] => if k = -1 ∧ -16777216 ≤ j ∧ i ≤ 16777216 ∧ i - j ≤ 16777216 ∧ j ≤ 16777216 ∧ -16777216 ≤ i then .ok (rangeN i j) e m else .no
  | _ => .no
section
variable {X : Cx} {c : C0} {Wx : WX} {tg a b d : Expr} {pos : Pos}
theorem walk_rangeN {W : Wd} (lo hi : Int) : WalkD X.K X.mg W (rangeN lo hi) (Itc lo (-1) (lo - hi).toNat) := by
  have hl := rangeN_len lo hi
  refine ⟨fun i d H' hs h => ?_, fun i H' hs h => ?_⟩
  · have hi : i < (lo - hi).toNat := by
      rw [← hl]
      exact (List.getElem?_eq_some_iff.mp h).1
    refine ⟨hi, fun x H'' ⟨e1, e2⟩ => .inl ⟨e1, ?_⟩⟩
    unfold rangeN at h
    rw [List.getElem?_map, List.getElem?_range hi] at h
    cases h
    exact e2
  · rw [hl] at h
    exact h
theorem ei_range3 {p : Pos} {f : FA} (hg : Gl X "range") (hm : X.mg "range" = none) (ha : EA X c Wx [a, b, d] f) (hs : starEach [a, b, d] X.env = (false, eval a X.env) :: starEach [b, d] X.env := by rfl) (hpl : (backTo pos (starEach [b, d] X.env)).any (·.1) = false := by rfl) :
    EI X c Wx tg (.Call (.Name "range" p) [a, b, d] [] pos) (fun e m => (f e m).bind rng3G) :=
  (pi_range3 hg hm ha hs hpl).impQ fun σ H Q ⟨W, o, e, m, M, h⟩ => ⟨W, o, e, m, M, (Post.bind (Rp := Reps X.K X.mg) h).mono fun v H1 ⟨W1, o1, e1, m1, d1, u1, M1, r1, h1⟩ => by
    unfold rng3G at h1
    split at h1
    · rename_i i j k
      split at h1
      · rename_i hc
        obtain ⟨rfl, h2, h3, h4, h5, h6⟩ := hc
        obtain ⟨v1, r, rfl, rfl, v2, r2, rfl, rfl, v3, r3, rfl, rfl, rfl⟩ := r1
        exact ⟨i, j, -1, (i - j).toNat, rfl, RgC.neg (Int.le_trans (by decide) h6) (Int.lt_of_le_of_lt h3 (by decide)) (Int.le_trans (by decide) h2) (Int.lt_of_le_of_lt h5 (by decide)), Post.here (Rp := RpW X.K X.mg) h1 M1 ⟨walk_rangeN i j, by rw [rangeN_len]; show _ ≤ 16777216; omega⟩⟩
      · exact h1.elim
    · exact h1.elim⟩
def wRng3 (f : FA) : FA := fun e m => (f e m).bind rng3G
end
end Qd
end
section
set_option Elab.async false
set_option linter.all false
set_option autoImplicit false
set_option maxRecDepth 100000

/-! x, y, z = value, own list, value. -/
namespace Qd
open PySem PySem.Spec PyProof.Rows L2
def sPar3 (i j l : Nat) (f : FE) (g : FV) (h : FE) : FS := fun e m => (f e m).thn fun d1 e m => (g e m).thn fun s e m => if notOi s then (h e m).thn fun d3 e m => .nx (((e.set i (some (.fz d1))).set j (some s)).set l (some (.fz d3))) m else .no
section
variable {X : Cx} {c : C0} {Wx : WX} {i j l : Nat} {x y z : Str} {a b d : Expr} {px py pz pt pos : Pos} {kt k2 : Nat} {pt2 : Pos} {f h : FE} {g : FV}
theorem ss_par3 (hc : X.calm = true) (hN : X.N.Nodup) (hi : X.N[i]? = some x) (hj : X.N[j]? = some y) (hl : X.N[l]? = some z) (hij : i ≠ j) (hil : i ≠ l) (hjl : j ≠ l)
    (hx : X.env.scope.names.lookup x = some .local) (hy : X.env.scope.names.lookup y = some .local) (hz : X.env.scope.names.lookup z = some .local) (ha : EE X c Wx a f) (hb : EV X c Wx b g) (hd : ∀ c, EE X c Wx d h)
    (hw : swappedStores [.Tuple [.Name x px, .Name y py, .Name z pz] kt pt] (.Tuple [a, b, d] k2 pt2) X.env = pure (some [x, y, z]))
    (h1 : starEach [a, b, d] X.env = (false, eval a X.env) :: starEach [b, d] X.env := by rfl) (h2 : starEach [b, d] X.env = (false, eval b X.env) :: starEach [d] X.env := by rfl) (h3 : starEach [d] X.env = (false, eval d X.env) :: starEach [] X.env := by rfl)
    (hs : swapsWithSole [.Tuple [.Name x px, .Name y py, .Name z pz] kt pt] (.Tuple [a, b, d] k2 pt2) pos.line X.env = pure false := by rfl) :
    SS X c Wx (.Assign [.Tuple [.Name x px, .Name y py, .Name z pz] kt pt] (.Tuple [a, b, d] k2 pt2) pos) (sPar3 i j l f g h) := by
  have hd' : PE X d (fun σ H Q => ∃ c, tE X.K X.mg c Wx h σ H Q) := ⟨fun pins s' σ H' Q I ⟨c, q⟩ => (hd c).run pins s' σ H' Q I q⟩
  refine (ps_par3 hc hN hi hj hl hij hil hjl hx hy hz (pa_cons ha (pa_cons hb (pa_cons hd' pa_nil h3) h2) h1) hw hs).impQ fun Dn σ H ⟨W, o, e, m, M, q⟩ => ⟨W, o, e, m, M, (PostS.thn q).mono fun v H1 ⟨W1, o1, e1, m1, d1, u1, M1, r1, q1⟩ => ⟨W1, o1, e1, m1, M1, ?_⟩⟩
  cases q2 : g e1 m1 with
  | no => rw [q2] at q1; exact q1.elim
  | ex n ns ds e2 m2 => rw [q2] at q1; exact fun W' o' H' C dd u' M q1' q2' => q1 W' o' σ H' C dd u' M q1' q2'
  | ok t e2 m2 =>
    rw [q2] at q1
    simp only [R.thn_ok] at q1
    cases t with
    | oi n ns ds => exact q1.elim
    | fz d2 =>
      intro W2 o2 H2 v2 u2 M2 r2
      have q1 := PostS.up u2 q1
      exact ⟨c, W2, o2, e2, m2, M2, (PostS.thn q1).mono fun v3 H3 ⟨W3, o3, e3, m3, d3, u3, M3, r3, q3⟩ => ⟨v, v2, v3, rfl, q3 W3 _ _ H3 (Up.refl W3) (((M3.setF (r1.up (u2.trans u3))).setF (r2.up u3)).setF r3)⟩⟩
    | ol l0 =>
      intro W2 o2 H2 p vs u2 M2 n2 zz r2
      refine ⟨_, W2, o2, e2, m2, M2, ?_⟩
      have q1 := PostS.up u2 q1
      cases q3 : h e2 m2 with
      | no => rw [q3] at q1; exact q1.elim
      | ex n ns ds' e3 m3 => rw [q3] at q1; exact fun W5 o5 H5 C5 dd5 u5 M5 g5 x5 => PostV.exOf (Q := fun _ _ => True) n2 q1 W5 o5 H5 C5 dd5 u5 M5 g5 x5
      | ok d3 e3 m3 =>
        rw [q3] at q1
        exact fun W3 o3 H3 v3 u3 M3 r3 => ⟨v, _, v3, rfl, by
          have M4 := (M3.setF (i := i) (r1.up (u2.trans u3))).setF (i := l) r3
          have M5 := M4.ownD (i := j) n2 (s := .ol l0) ⟨p, vs, by unfold setO; rw [if_pos rfl], rfl, M4.D_H n2, zz, r2.up u3⟩
          rw [set_flip _ hjl, set_flip _ hjl] at M5
          exact q1 W3 _ _ H3 u3 M5⟩
    | od ks ds =>
      intro W2 o2 H2 p vs u2 M2 n2 zz r2
      refine ⟨_, W2, o2, e2, m2, M2, ?_⟩
      have q1 := PostS.up u2 q1
      cases q3 : h e2 m2 with
      | no => rw [q3] at q1; exact q1.elim
      | ex n ns ds' e3 m3 => rw [q3] at q1; exact fun W5 o5 H5 C5 dd5 u5 M5 g5 x5 => PostV.exOf (Q := fun _ _ => True) n2 q1 W5 o5 H5 C5 dd5 u5 M5 g5 x5
      | ok d3 e3 m3 =>
        rw [q3] at q1
        exact fun W3 o3 H3 v3 u3 M3 r3 => ⟨v, _, v3, rfl, by
          have M4 := (M3.setF (i := i) (r1.up (u2.trans u3))).setF (i := l) r3
          have M5 := M4.ownD (i := j) n2 (s := .od ks ds) ⟨p, vs, by unfold setO; rw [if_pos rfl], rfl, M4.D_H n2, zz, r2.up u3⟩
          rw [set_flip _ hjl, set_flip _ hjl] at M5
          exact q1 W3 _ _ H3 u3 M5⟩
end
end Qd
end
section
set_option Elab.async false
set_option linter.all false
set_option autoImplicit false
set_option maxRecDepth 100000

/-! name == value, where the name may hold an own list. -/
namespace Qd
open PySem PySem.Spec PyProof.Rows L2
section
variable {X : Cx} {c : C0} {Wx : WX} {a b : Expr} {fa fb : FE} {pos p2 : Pos} {x : Str} {i : Nat}
def xEqN (neg : Bool) (i : Nat) (f : FE) : FE := onS i fun e m => (f e m).bind fun y e m => match e[i]? with
  | some (some (.ol l)) => fin ((eqD (.lst l) y).map fun b => .bl (if neg then !b else b)) e m
  | some (some (.fz d)) => fin ((eqD d y).map fun b => .bl (if neg then !b else b)) e m
  | _ => .no
theorem eqN_ok {W : Wd} {o : Nat → Option Addr} {σ : L2.St} {H : Hp} {e : Env} {m : MS} {y : D} {vy v : V} {Q : VK} {neg : Bool} (M : Mt X.K X.mg c W o σ H e m) (ry : Rep X.K X.mg W y vy) (hσ : σ[i]? = some (some v))
    (h : Post X.K X.mg c W σ (Rep X.K X.mg) Q Wx (match e[i]? with
      | some (some (.ol l)) => fin ((eqD (.lst l) y).map fun b => .bl (if neg then !b else b)) e m
      | some (some (.fz d)) => fin ((eqD d y).map fun b => .bl (if neg then !b else b)) e m
      | _ => .no)) : ∃ p q, Dp X.K H v p ∧ Dp X.K H vy q ∧ SeqAt.shaped p = true ∧ SeqAt.shaped q = true ∧ Q (.bl (if neg then !(PyData.eqv p q) else PyData.eqv p q)) H := by
  split at h
  · rename_i l hs
    obtain ⟨p, vs, ho, hv, hp, hz, r⟩ := M.slot hσ hs
    cases hv
    obtain ⟨d, hd, hh⟩ := Post.fin h
    obtain ⟨b, hb, rfl⟩ := Option.map_eq_some_iff.mp hd
    obtain ⟨p', q, h1, h2, h3, h4, rfl⟩ := eqD_some hb
    obtain ⟨q1, q2⟩ := ry.dp M.sub h2
    unfold pdO at h1
    obtain ⟨ps, h5, rfl⟩ := Option.map_eq_some_iff.mp h1
    obtain ⟨r1, r2⟩ := r.dp M.sub h5
    exact ⟨_, q, .lst (SqL.of hp) r1, q1, shaped_of r2 h3, shaped_of q2 h4, Post.here hh M rfl⟩
  · rename_i d hs
    obtain ⟨v', hv, r⟩ := M.slot hσ hs
    cases hv
    obtain ⟨d', hd, hh⟩ := Post.fin h
    obtain ⟨b, hb, rfl⟩ := Option.map_eq_some_iff.mp hd
    obtain ⟨p', q, h1, h2, h3, h4, rfl⟩ := eqD_some hb
    obtain ⟨p1, p2⟩ := r.dp M.sub h1
    obtain ⟨q1, q2⟩ := ry.dp M.sub h2
    exact ⟨_, q, p1, q1, shaped_of p2 h3, shaped_of q2 h4, Post.here hh M rfl⟩
  · exact h.elim
theorem ee_eqN (hu : X.A.units + 100 < cLine) (hN : X.N[i]? = some x) (hvi : Vis X.env.scope x) (hb : EE X c Wx b fb) (hd : (x == ("__debug__" : Str)) = false := by decide) (hcd : (x == ("__classdict__" : Str)) = false := by decide) : EE X c Wx (.Compare (.Name x p2) [.Eq] [b] pos) (xEqN false i fb) :=
  (pe_cmpR (op_eqD (hu64 hu)) (pe_var hN hvi hd hcd) hb (nobehind _ (by decide) (by decide))).impQ fun σ H Q ⟨W, o, e, m, M, h⟩ => by
    unfold xEqN at h
    obtain ⟨v, hσ, h⟩ := Post.onS M h
    exact ⟨v, hσ, W, o, e, m, M, (Post.bind (Rp := Rep X.K X.mg) h).mono fun vy H1 ⟨W1, o1, e1, m1, d1, u1, M1, r1, h1⟩ => eqN_ok (neg := false) M1 r1 hσ h1⟩
theorem ee_neN (hu : X.A.units + 100 < cLine) (hN : X.N[i]? = some x) (hvi : Vis X.env.scope x) (hb : EE X c Wx b fb) (hd : (x == ("__debug__" : Str)) = false := by decide) (hcd : (x == ("__classdict__" : Str)) = false := by decide) : EE X c Wx (.Compare (.Name x p2) [.NotEq] [b] pos) (xEqN true i fb) :=
  (pe_cmpR (op_neD (hu64 hu)) (pe_var hN hvi hd hcd) hb (nobehind _ (by decide) (by decide))).impQ fun σ H Q ⟨W, o, e, m, M, h⟩ => by
    unfold xEqN at h
    obtain ⟨v, hσ, h⟩ := Post.onS M h
    exact ⟨v, hσ, W, o, e, m, M, (Post.bind (Rp := Rep X.K X.mg) h).mono fun vy H1 ⟨W1, o1, e1, m1, d1, u1, M1, r1, h1⟩ => eqN_ok (neg := true) M1 r1 hσ h1⟩
theorem et_eqN (hu : X.A.units + 100 < cLine) (hN : X.N[i]? = some x) (hvi : Vis X.env.scope x) (hb : EE X c Wx b fb) (hd : (x == ("__debug__" : Str)) = false := by decide) (hcd : (x == ("__classdict__" : Str)) = false := by decide) : ET X c Wx (.Compare (.Name x p2) [.Eq] [b] pos) (tOf (xEqN false i fb)) :=
  (pt_cmpR (op_eqD (hu64 hu)) (pe_var hN hvi hd hcd) hb (nobehind _ (by decide) (by decide))).impQ fun σ H Q ⟨W, o, e, m, M, h⟩ => by
    unfold tOf xEqN at h
    have h := Post.bind (Rp := Rep X.K X.mg) h
    obtain ⟨v, hσ, h⟩ := Post.onS M h
    refine ⟨v, hσ, W, o, e, m, M, (Post.bind (Rp := Rep X.K X.mg) h).mono fun vy H1 ⟨W1, o1, e1, m1, d1, u1, M1, r1, h1⟩ => eqN_ok (neg := false) (Q := fun x H' => ∃ k, x = V.bl k ∧ Q k H') M1 r1 hσ (h1.mono fun v3 H3 ⟨W3, o3, e3, m3, d3, u3, M3, r3, h3⟩ => by
      obtain ⟨k, hv, _, q⟩ := post_asB M3 r3 h3
      exact ⟨k, hv, q⟩)⟩
theorem et_neN (hu : X.A.units + 100 < cLine) (hN : X.N[i]? = some x) (hvi : Vis X.env.scope x) (hb : EE X c Wx b fb) (hd : (x == ("__debug__" : Str)) = false := by decide) (hcd : (x == ("__classdict__" : Str)) = false := by decide) : ET X c Wx (.Compare (.Name x p2) [.NotEq] [b] pos) (tOf (xEqN true i fb)) :=
  (pt_cmpR (op_neD (hu64 hu)) (pe_var hN hvi hd hcd) hb (nobehind _ (by decide) (by decide))).impQ fun σ H Q ⟨W, o, e, m, M, h⟩ => by
    unfold tOf xEqN at h
    have h := Post.bind (Rp := Rep X.K X.mg) h
    obtain ⟨v, hσ, h⟩ := Post.onS M h
    refine ⟨v, hσ, W, o, e, m, M, (Post.bind (Rp := Rep X.K X.mg) h).mono fun vy H1 ⟨W1, o1, e1, m1, d1, u1, M1, r1, h1⟩ => eqN_ok (neg := true) (Q := fun x H' => ∃ k, x = V.bl k ∧ Q k H') M1 r1 hσ (h1.mono fun v3 H3 ⟨W3, o3, e3, m3, d3, u3, M3, r3, h3⟩ => by
      obtain ⟨k, hv, _, q⟩ := post_asB M3 r3 h3
      exact ⟨k, hv, q⟩)⟩
end
end Qd
end
section
set_option Elab.async false
set_option linter.all false
set_option autoImplicit false
set_option maxRecDepth 100000

/-! An own operator with a value of a built-in type on the right; stars in displays. -/
namespace Qd
open PySem PySem.Spec PyProof.Rows L2
section
variable {P : Program} {w : World} {A : Around} {E : Value → Shared → Prop} {s : Shared} {K : PySem.W.Frag} {x C L f : Addr} {h0 : Heap} {mm : Str → Option Value} {ox : Obj} {od : Option Obj}
theorem looks_table {M : Model} {h : Heap} {T : String} {nm : String} {a b : Option Value} (KX : K.In h) (h1 : PySem.W.findIn K (.type T) (PySem.dunder nm) = some a) (h2 : PySem.W.findIn K (.type T) (dunderR nm) = some b) :
    PySem.W.Looks M h (fillsNumberSlot (.type T) nm) ((a.isSome && !isSeqSlot a) || (b.isSome && !isSeqSlot b)) := by
  intro A Q E s k q
  unfold fillsNumberSlot
  exact wpAny_bind (PySem.W.looks_findIn KX h1 A _ E s k (wpAny_bind (PySem.W.looks_findIn KX h2 A _ E s k (wpAny_pure q))))
theorem looks_inPy {M : Model} {h : Heap} {nm : String} (KX : K.In h) (h1 : PySem.W.findIn K (.ref C) (PySem.dunder nm) = some (some (.ref f))) (h2 : PySem.W.findIn K (.ref C) (dunderR nm) = some none) :
    PySem.W.Looks M h (numberSlotInPython (.ref C) nm) true := by
  intro A Q E s k q
  unfold numberSlotInPython
  refine wpAny_bind (PySem.W.looks_findIn KX h1 A _ E s k ?_)
  show wpAny M A (do
    let f ← (pure true : Sem Bool)
    _) Q E s
  refine wpAny_bind (wpAny_pure (wpAny_bind (PySem.W.looks_findIn KX h2 A _ E s k (wpAny_bind (wpAny_pure ?_)))))
  simp only [Bool.true_or, if_true]
  exact wpAny_pure q
theorem binop_ext {op : Operator} {T : String} {b : Value} {Q : Value → Shared → Prop} {f0 r0 : Option Value} (F : Fr h0 L s.heap mm) (X0 : K.In h0) (I : PySem.W.InstAt s.heap x ox C od) (hb : PySem.W.Looks (model P w) s.heap (typeOf b) (.type T)) (hc : PySem.W.selfFirst K C = true)
    (hs : PySem.W.findIn K (.ref C) (PySem.dunder op.info.2) = some (some (.ref f))) (hr : PySem.W.findIn K (.ref C) (dunderR op.info.2) = some none) (h1 : PySem.W.findIn K (.type T) (PySem.dunder op.info.2) = some f0) (h2 : PySem.W.findIn K (.type T) (dunderR op.info.2) = some r0)
    (hsub : PySem.W.subIn K (.type T) (.ref C) = some false) (hf : PySem.W.isFn K (.ref f) = true)
    (go : wpAny (model P w) A (call (.ref f) [.ref x, b]) (PySem.W.CmpBack Q) E s) : wpAny (model P w) A (binaryOp op (.ref x) b) Q E s := by
  have KX := X0.keeps F.keep
  obtain ⟨cd, hcd, hm0⟩ := PySem.W.any_some hc
  obtain ⟨rest, hm⟩ : ∃ rest, cd.mro = .ref C :: rest := by
    cases q : cd.mro with
    | nil => rw [q] at hm0; cases hm0
    | cons a r => rw [q] at hm0; exact ⟨r, by rw [List.head?_cons] at hm0; cases (beq_iff_eq.mp hm0); rfl⟩
  unfold binaryOp
  apply wpAny_holding
  apply wpAny_bind
  unfold binaryOp1
  refine wpAny_bind (I.type.here (wpAny_bind (hb.here (wpAny_bind ((PySem.W.fills_K KX hcd hm hs).here ?_)))))
  have ne : (Value.ref C == Value.type T) = false := rfl
  simp only [ne, Bool.false_eq_true, if_false]
  refine wpAny_bind ((looks_table KX h1 h2).here ?_)
  have last : ∀ (taken : Option Value) (q : Bool), wpAny (model P w) A (tryMethod (.ref x) (PySem.dunder op.info.2) b) (fun r s' => ∃ v, r = some v ∧ Q v s') E s := by
    intro taken q
    unfold tryMethod
    refine wpAny_bind (PySem.W.special_fn KX I hs (beq_iff_eq.mp hf) (wpAny_mono go (fun v s' hv => ?_) fun _ _ e => e))
    cases v <;> first | exact hv.elim | exact wpAny_pure ⟨_, rfl, hv⟩
  cases hq : ((f0.isSome && !isSeqSlot f0) || (r0.isSome && !isSeqSlot r0)) with
  | false =>
    simp only [Bool.and_false, Bool.false_eq_true, if_false, Bool.false_and, if_true]
    refine wpAny_bind (wpAny_pure ?_)
    simp only [Bool.false_eq_true, if_false]
    refine wpAny_bind (wpAny_mono (last none true) (fun r s' z => ?_) fun _ _ e => e)
    obtain ⟨v, rfl, hv⟩ := z
    exact wpAny_pure (wpAny_pure hv)
  | true =>
    simp only [Bool.and_true, Bool.true_and, if_true, Bool.and_self]
    refine wpAny_bind ((PySem.W.looks_subIn KX hsub).here ?_)
    simp only [Bool.false_eq_true, if_false, Bool.not_false, if_true]
    refine wpAny_bind ((looks_inPy KX hs hr).here ?_)
    simp only [if_true]
    refine wpAny_bind (m := numberSlotInPython (.type T) op.info.2) (wpAny_pure ?_)
    simp only [Bool.not_false, if_true]
    refine wpAny_bind (PySem.W.looks_findIn KX h2 A _ E s (fun _ _ z => z) ?_)
    refine wpAny_bind (wpAny_mono (last none true) (fun r s' z => ?_) fun _ _ e => e)
    obtain ⟨v, rfl, hv⟩ := z
    exact wpAny_pure (wpAny_pure hv)
end
def tysE : List String := ["NoneType", "bool", "int", "str", "tuple", "list", "dict"]
theorem tyE_in {d : D} {T : String} (h : tyE d = some T) : T ∈ tysE := by
  cases d <;> cases h <;> decide
/-- the machine's own types answer for op's names -/
def opAns (op : Operator) : Bool := tysE.all fun T => (PySem.fastLookup T (PySem.dunder op.info.2)).isSome && ((PySem.fastLookup T (dunderR op.info.2)).isSome && (PySem.fastFind? T).isSome)
theorem opAns_add : opAns .Add = true := by decide +kernel
theorem opAns_sub : opAns .Sub = true := by decide +kernel
theorem opAns_mul : opAns .Mult = true := by decide +kernel
section
variable {X : Cx} {CX : CXT} {c : C0} {Wx : WX} {E : XK} {k n : Nat} {g C : Addr} {sp : Sp} {f : FF} {cn : Str} {pos : Pos} {e o a b : Expr} {fa fb fo : FE}
theorem op_ownBinT {op : Operator} (ho : opAns op = true) (hM : Meth X.K C (PySem.dunder op.info.2) g) (hB : BinOf X.K C op) (F : FnR X.prog X.w X.K X.mg X.base CX n g sp) (hr : Room n X.A) (hx : Passes CX X E) : OpR X (binaryOp op) (fun x y H Q => ∃ a dx fs T, x = .ref a ∧ H a = some (.ins C dx fs) ∧ T ∈ tysE ∧ TyX X.K H y (.type T) ∧ sp [x, y] H Q E) := by
  intro pins s σ H x y v u Q I rx ry h
  obtain ⟨a, dx, fs, T, rfl, ha, hT, ty, q⟩ := h
  cases (show v = Value.ref a from rx)
  have h3 := List.all_eq_true.mp ho T hT
  obtain ⟨h1, h2⟩ := Bool.and_eq_true_iff.mp h3
  obtain ⟨h2, h4⟩ := Bool.and_eq_true_iff.mp h2
  obtain ⟨f0, e1⟩ := Option.isSome_iff_exists.mp h1
  obtain ⟨r0, e2⟩ := Option.isSome_iff_exists.mp h2
  have hsub : PySem.W.subIn X.K (.type T) (.ref C) = some false := by
    have nf := nf_type X.K C h4
    rcases Bool.or_eq_true_iff.mp nf with z | z
    · cases (beq_iff_eq.mp z)
    · exact beq_iff_eq.mp z
  obtain ⟨mA, J, _⟩ := ins_get I.hok ha
  obtain ⟨od, J, _⟩ := J.look
  obtain ⟨Pp, Z, p, _⟩ := kit_of I ry ty
  obtain ⟨m, hF⟩ := I.fr
  refine binop_ext hF I.ok.mod.kin J (Z.ty _ _ I.kIn p) hB.sf hM.at_ hB.no e1 e2 hsub hM.fn ?_
  refine wpAny_mono (wpAny_call (run_fnR (us := [.ref a, u]) (vs := [.ref a, y]) F hr hx I (.cons rfl (.cons ry .nil)) q)) (fun w s' z => ?_) fun _ _ x => x
  obtain ⟨z', H', I', rz, qz⟩ := z
  exact SlX.cmpback rz ⟨z', H', I', rz, qz⟩
/-- x + y, y of a built-in type -/
def ownBT (cn : Str) (f : FF) : D → D → Env → MS → R D := fun x y e m => if insIs cn "" x && (tyE y).isSome then (f [x, y] m).atE e else .no
theorem ee_ownBinT {op : Operator} (hm : X.mg cn = some (.ref C)) (ho : opAns op = true) (hM : Meth X.K C (PySem.dunder op.info.2) g) (hB : BinOf X.K C op) (F : FDX X k g f) (hr : Room k X.A) (hx : PX X Wx E) (ha : EE X c Wx a fa) (hb : EE X c Wx b fb) : EE X c Wx (.BinOp a op b pos) (x2 fa fb (ownBT cn f)) :=
  ee_op (op_ownBinT ho hM hB F hr hx.1) (fun W o σ H e m x y vx vy Q M rx ry h => by
    unfold ownBT at h
    split at h
    · rename_i hi
      obtain ⟨h1, h2⟩ := Bool.and_eq_true_iff.mp hi
      obtain ⟨a, dx, fs, rfl, hH, _⟩ := insIs_rep M h1 hm rx
      obtain ⟨T, hT⟩ := Option.isSome_iff_exists.mp h2
      exact ⟨a, dx, fs, T, rfl, hH, tyE_in hT, tyE_rep M ry hT, spD_of (ds := [x, y]) M ⟨_, _, rfl, rx, _, _, rfl, ry, rfl⟩ (fun cls d H => hx.2 cls d σ H) h⟩
    · exact h.elim) ha hb
/-- *x, .. -/
def aStar (f : FE) (g : FA) : FA := fun e m => (f e m).bind fun d e m => match d with
  | .lst l => (g e m).bind fun r e m => .ok (l ++ r) e m
  | .tup l => (g e m).bind fun r e m => .ok (l ++ r) e m
  | _ => .no
theorem ea_star {x : Expr} {p : Pos} {xs : List Expr} {f : FE} {g : FA} (hx : EE X c Wx x f) (hr : EA X c Wx xs g) (hs : starEach (.Starred x p :: xs) X.env = (true, eval x X.env) :: starEach xs X.env := by rfl) : EA X c Wx (.Starred x p :: xs) (aStar f g) :=
  (StX.pa_star hx hr hs).impQ fun σ H Q ⟨W, o, e, m, M, h⟩ => ⟨W, o, e, m, M, (Post.bind (Rp := Rep X.K X.mg) h).mono fun v H1 ⟨W1, o1, e1, m1, d, u1, M1, r1, h1⟩ => by
    cases d with
    | lst l =>
      obtain ⟨p, vs, rfl, hp, hz, r⟩ := r1
      exact ⟨p, vs, rfl, .inr (SqL.of (M1.sub _ _ hp)), W1, o1, e1, m1, M1, (Post.bind (Rp := Reps X.K X.mg) h1).mono fun ws H2 ⟨W2, o2, e2, m2, ds, u2, M2, r2, h2⟩ => Post.here (Rp := Reps X.K X.mg) h2 M2 ((r.up u2).append r2)⟩
    | tup l =>
      obtain ⟨p, vs, rfl, hp, hz, r⟩ := r1
      exact ⟨p, vs, rfl, .inl (SqT.of (M1.sub _ _ hp)), W1, o1, e1, m1, M1, (Post.bind (Rp := Reps X.K X.mg) h1).mono fun ws H2 ⟨W2, o2, e2, m2, ds, u2, M2, r2, h2⟩ => Post.here (Rp := Reps X.K X.mg) h2 M2 ((r.up u2).append r2)⟩
    | _ => exact h1.elim⟩
end
end Qd
end
section
set_option Elab.async false
set_option linter.all false
set_option autoImplicit false
set_option maxRecDepth 100000
set_option maxHeartbeats 1000000

/-! zip of two sources, each a list or a tuple. -/
namespace Qd
open PySem PySem.Spec PyProof.Rows L2
open PySem.Sem (wp)
/-- the iterator of a source: of a tuple (true), of a list (false) -/
def ItOf (b : Bool) (h : Heap) (it l : Addr) (i : Nat) : Prop := if b then h.IsTupleIter it l i else h.IsListIter it l i
def RowOf (b : Bool) (h : Heap) (l : Addr) (xs : Array Value) : Prop := if b then h.IsTuple l xs else h.IsList l xs
section
variable {b : Bool} {h h2 : Heap} {it l z : Addr} {i : Nat} {xs : Array Value}
theorem ItOf.move (k : ItOf b h it l i) (e : Heap.ExtBut z h h2) (n : it ≠ z) : ItOf b h2 it l i := by
  cases b
  · exact Heap.IsListIter.extBut k e n
  · exact Heap.IsTupleIter.extBut k e n
theorem RowOf.move (k : RowOf b h l xs) (e : Heap.ExtBut z h h2) (n : l ≠ z) : RowOf b h2 l xs := by
  cases b
  · exact Heap.IsList.extBut k e n
  · exact Heap.IsTuple.extBut k e n
theorem ItOf.to (k : ItOf b h it l i) (e : ∀ o, h.get? it = some o → h2.get? it = some o) : ItOf b h2 it l i := by
  cases b
  · exact Heap.IsListIter.at k e
  · exact Heap.IsTupleIter.at k e
theorem ItOf.there (k : ItOf b h it l i) : ∃ o, h.get? it = some o ∧ ∀ v, o.data ≠ .cell v := by
  cases b
  · obtain ⟨o, h1, _, h2⟩ := k
    exact ⟨o, h1, fun v q => by rw [h2] at q; cases q⟩
  · obtain ⟨o, h1, _, h2⟩ := k
    exact ⟨o, h1, fun v q => by rw [h2] at q; cases q⟩
theorem RowOf.lt (k : RowOf b h l xs) : l < h.objs.size := by
  cases b
  · obtain ⟨o, h1, _⟩ := (show h.IsList l xs from k)
    exact Heap.lt_size h1
  · obtain ⟨o, h1, _⟩ := (show h.IsTuple l xs from k)
    exact Heap.lt_size h1
theorem RowOf.grow (k : RowOf b h l xs) (o : Obj) : RowOf b (h.push o) l xs := by
  cases b
  · exact Heap.IsList.push k o
  · exact Heap.IsTuple.push k o
end
section
variable {P : Program} {w : World} {A : Around} {E : Value → Shared → Prop} {s : Shared} {b b2 : Bool}
theorem draw_item {it l : Addr} {i : Nat} {xs : Array Value} {x : Value} {Q : Value → Shared → Prop} (hit : ItOf b s.heap it l i) (hl : RowOf b s.heap l xs) (hx : xs[i]? = some x)
    (hQ : ∀ h', ItOf b h' it l (i + 1) → Heap.SameBut it s.heap h' → Q x { s with heap := h' }) : wpAny (model P w) A (Builtin.SmallTypes.nextOf (.ref it)) Q E s := by
  cases b
  · exact wpAny_nextOf_list_item hit hl hx hQ
  · exact RZ.nextOf_tuple_item hit hl hx hQ
theorem draw_end {it l : Addr} {i : Nat} {xs : Array Value} {Q : Value → Shared → Prop} (hh : A.handled = none) (hit : ItOf b s.heap it l i) (hl : RowOf b s.heap l xs) (hx : xs[i]? = none)
    (hE : ∀ h' e, Heap.ExtBut it s.heap h' → (∃ o, h'.get? e = some o ∧ o.cls = .type "StopIteration") → E (.ref e) { s with heap := h' }) : wpAny (model P w) A (Builtin.SmallTypes.nextOf (.ref it)) Q E s := by
  cases b
  · exact wpAny_nextOf_list_end hh hit hl hx hE
  · exact RZ.nextOf_tuple_end hh hit hl hx hE
theorem zip_item {z TI TO i1 i2 l1 l2 : Addr} {k1 k2 : Nat} {xs ys : Array Value} {x y v0 w0 : Value} {Q : Value → Shared → Prop} (D : ZipApart z TI TO i1 i2 l1 l2)
    (hz : IsZip s.heap z TI TO .none) (hTI : IsPair s.heap TI (.ref i1) (.ref i2)) (hTO : IsPair s.heap TO v0 w0) (j1 : ItOf b s.heap i1 l1 k1) (j2 : ItOf b2 s.heap i2 l2 k2) (r1 : RowOf b s.heap l1 xs) (r2 : RowOf b2 s.heap l2 ys) (hx : xs[k1]? = some x) (hy : ys[k2]? = some y)
    (hQ : ∀ h', IsZip h' z TI TO (rawInt s.heap.objs.size) → IsPair h' TO x y → ItOf b h' i1 l1 (k1 + 1) → ItOf b2 h' i2 l2 (k2 + 1) → IsPair h' s.heap.objs.size x y → h'.objs.size = s.heap.objs.size + 1 →
      (∀ c o, c ≠ z → c ≠ TO → c ≠ i1 → c ≠ i2 → s.heap.get? c = some o → h'.get? c = some o) → Q (.ref s.heap.objs.size) { s with heap := h' }) :
    wpAny (model P w) A (Builtin.«zip.__next__» ⟨[.ref z], []⟩) (fun f s' => ∃ v, f = .done (.ret v) ∧ Q v s') E s := by
  show wpAny _ _ (field (.ref z) 2 >>= _) _ _ _
  apply wpAny_bind
  apply wpAny_field hz rfl (x := .bool false) rfl
  show wpAny _ _ (field (.ref z) 3 >>= _) _ _ _
  apply wpAny_bind
  apply wpAny_field hz rfl (x := .ref TI) rfl
  apply wpAny_bind
  apply wpAny_seqItems hTI rfl
  show wpAny _ _ (Builtin.SmallTypes.ownedTupleIsFree (.ref z) >>= _) _ _ _
  apply wpAny_bind
  unfold Builtin.SmallTypes.ownedTupleIsFree
  apply wpAny_bind
  apply wpAny_field hz rfl (x := .none) rfl
  apply wpAny_pure
  simp only [if_true]
  apply wpAny_bind
  apply wpAny_rule
  apply wpAny_bind
  apply wpAny_field hz rfl (x := .ref TO) rfl
  apply wpAny_bind
  refine wpAny_setField_rec hz (by simp) fun a1 (za : IsZip a1 z TI TO .ellipsis) sa => ?_
  apply wpAny_bind
  simp only [List.zipIdx_cons, List.zipIdx_nil, List.forIn_cons, List.forIn_nil]
  -- the first source
  apply wpAny_bind
  apply wpAny_bind
  apply wpAny_onRaise
  show wpAny _ _ (Builtin.SmallTypes.nextOf (.ref i1) >>= _) _ _ _
  apply wpAny_bind
  refine draw_item (j1.move sa.extBut D.i1z) (r1.move sa.extBut D.l1z) hx fun a2 ja sb => wpAny_pure ?_
  have pa : IsPair a2 TO v0 w0 := sb.extBut _ _ D.TOi1 (sa.extBut _ _ D.TOz hTO)
  apply wpAny_bind
  apply wpAny_seqItems pa rfl
  apply wpAny_bind
  refine wpAny_updateSeq_pair pa fun a3 (pb : IsPair a3 TO x w0) sc => ?_
  apply wpAny_bind
  apply wpAny_letGo
  apply wpAny_pure
  -- the second one
  apply wpAny_bind
  apply wpAny_bind
  apply wpAny_onRaise
  show wpAny _ _ (Builtin.SmallTypes.nextOf (.ref i2) >>= _) _ _ _
  apply wpAny_bind
  refine draw_item (((j2.move sa.extBut D.i2z).move sb.extBut D.i12.symm).move sc.extBut D.TOi2.symm) (((r2.move sa.extBut D.l2z).move sb.extBut D.l2i1).move sc.extBut D.l2TO) hy fun a4 jb sd => wpAny_pure ?_
  have pc : IsPair a4 TO x w0 := sd.extBut _ _ D.TOi2 pb
  apply wpAny_bind
  apply wpAny_seqItems pc rfl
  apply wpAny_bind
  refine wpAny_updateSeq_pair pc fun a5 (pd : IsPair a5 TO x y) se => ?_
  apply wpAny_bind
  apply wpAny_letGo
  apply wpAny_pure
  apply wpAny_pure
  -- the pair is handed out
  apply wpAny_bind
  apply wpAny_seqItems pd rfl
  apply wpAny_bind
  refine wpAny_newTuple ?_
  have size5 : a5.objs.size = s.heap.objs.size := by rw [se.1, sd.1, sc.1, sb.1, sa.1]
  have zb : IsZip a5 z TI TO .ellipsis := se.extBut _ _ D.TOz.symm (sd.extBut _ _ D.i2z.symm (sc.extBut _ _ D.TOz.symm (sb.extBut _ _ D.i1z.symm za)))
  have same : ∀ c o, c ≠ z → c ≠ TO → c ≠ i1 → c ≠ i2 → s.heap.get? c = some o → a5.get? c = some o := fun c o n1 n2 n3 n4 e => se.extBut _ _ n2 (sd.extBut _ _ n4 (sc.extBut _ _ n2 (sb.extBut _ _ n3 (sa.extBut _ _ n1 e))))
  have jc : ItOf b a5 i1 l1 (k1 + 1) := ((ja.move sc.extBut D.TOi1.symm).move sd.extBut D.i12).move se.extBut D.TOi1.symm
  have jd : ItOf b2 a5 i2 l2 (k2 + 1) := jb.move se.extBut D.TOi2.symm
  have zl : z < a5.objs.size := Heap.lt_size zb
  show wpAny _ _ (Builtin.SmallTypes.ownedTupleHandOut (.ref z) (.ref a5.objs.size) >>= _) _ _ _
  apply wpAny_bind
  unfold Builtin.SmallTypes.ownedTupleHandOut
  have zc : IsZip (a5.push { cls := .type "tuple", data := .seq #[x, y] }) z TI TO .ellipsis := Heap.get?_push_of_some _ zb
  apply wpAny_bind
  refine wpAny_setField_rec zc (by simp) fun a6 (zd : IsZip a6 z TI TO (rawInt a5.objs.size)) sf => ?_
  refine wpAny_setField_rec zd (by simp) fun a7 (ze : IsZip a7 z TI TO (rawInt a5.objs.size)) sg => ?_
  have up : ∀ c o, c ≠ z → a5.get? c = some o → a7.get? c = some o := fun c o n e => sg.extBut _ _ n (sf.extBut _ _ n (Heap.get?_push_of_some _ e))
  have pe : IsPair a7 a5.objs.size x y := sg.extBut _ _ (Nat.ne_of_gt zl) (sf.extBut _ _ (Nat.ne_of_gt zl) (Heap.get?_push_size _ rfl))
  have size7 : a7.objs.size = a5.objs.size + 1 := by rw [sg.1, sf.1, Heap.size_push]
  rw [size5] at ze pe size7
  apply wpAny_pure
  refine ⟨_, rfl, ?_⟩
  show Q (.ref a5.objs.size) _
  rw [size5]
  exact hQ a7 ze (up _ _ D.TOz pd) (jc.to fun o e => up _ o D.i1z e) (jd.to fun o e => up _ o D.i2z e) pe size7 fun c o n1 n2 n3 n4 e => up c o n1 (same c o n1 n2 n3 n4 e)
theorem zip_stop {z TI TO i1 i2 l1 l2 : Addr} {k1 k2 : Nat} {xs ys : Array Value} {v0 w0 : Value} {Q : Fin → Shared → Prop} (hh : A.handled = none) (D : ZipApart z TI TO i1 i2 l1 l2)
    (hz : IsZip s.heap z TI TO .none) (hTI : IsPair s.heap TI (.ref i1) (.ref i2)) (hTO : IsPair s.heap TO v0 w0) (j1 : ItOf b s.heap i1 l1 k1) (j2 : ItOf b2 s.heap i2 l2 k2) (r1 : RowOf b s.heap l1 xs) (r2 : RowOf b2 s.heap l2 ys) (hend : xs[k1]? = none ∨ ys[k2]? = none)
    (hE : ∀ h' e, (∀ c o, c ≠ z → c ≠ TO → c ≠ i1 → c ≠ i2 → s.heap.get? c = some o → h'.get? c = some o) → (∃ o, h'.get? e = some o ∧ o.cls = .type "StopIteration") → E (.ref e) { s with heap := h' }) :
    wpAny (model P w) A (Builtin.«zip.__next__» ⟨[.ref z], []⟩) Q E s := by
  show wpAny _ _ (field (.ref z) 2 >>= _) _ _ _
  apply wpAny_bind
  apply wpAny_field hz rfl (x := .bool false) rfl
  show wpAny _ _ (field (.ref z) 3 >>= _) _ _ _
  apply wpAny_bind
  apply wpAny_field hz rfl (x := .ref TI) rfl
  apply wpAny_bind
  apply wpAny_seqItems hTI rfl
  show wpAny _ _ (Builtin.SmallTypes.ownedTupleIsFree (.ref z) >>= _) _ _ _
  apply wpAny_bind
  unfold Builtin.SmallTypes.ownedTupleIsFree
  apply wpAny_bind
  apply wpAny_field hz rfl (x := .none) rfl
  apply wpAny_pure
  simp only [if_true]
  apply wpAny_bind
  apply wpAny_rule
  apply wpAny_bind
  apply wpAny_field hz rfl (x := .ref TO) rfl
  apply wpAny_bind
  refine wpAny_setField_rec hz (by simp) fun a1 (za : IsZip a1 z TI TO .ellipsis) sa => ?_
  apply wpAny_bind
  simp only [List.zipIdx_cons, List.zipIdx_nil, List.forIn_cons, List.forIn_nil]
  apply wpAny_bind
  apply wpAny_bind
  apply wpAny_onRaise
  show wpAny _ _ (Builtin.SmallTypes.nextOf (.ref i1) >>= _) _ _ _
  apply wpAny_bind
  cases hx : xs[k1]? with
  | none =>
    refine draw_end hh (j1.move sa.extBut D.i1z) (r1.move sa.extBut D.l1z) hx fun a2 e eb he => ?_
    obtain ⟨oe, g1, g2⟩ := he
    have zb : IsZip a2 z TI TO .ellipsis := eb _ _ D.i1z.symm za
    have ne : e ≠ z := fun q => by subst q; rw [zb] at g1; cases g1; simp at g2
    exact wpAny_setField_rec zb (by simp) fun a3 _ sc => hE a3 e (fun c o n1 _ n3 _ q => sc.extBut _ _ n1 (eb _ _ n3 (sa.extBut _ _ n1 q))) ⟨oe, sc.extBut _ _ ne g1, g2⟩
  | some x =>
    have hy : ys[k2]? = none := by
      rcases hend with q | q
      · rw [hx] at q; cases q
      · exact q
    refine draw_item (j1.move sa.extBut D.i1z) (r1.move sa.extBut D.l1z) hx fun a2 ja sb => wpAny_pure ?_
    have pa : IsPair a2 TO v0 w0 := sb.extBut _ _ D.TOi1 (sa.extBut _ _ D.TOz hTO)
    apply wpAny_bind
    apply wpAny_seqItems pa rfl
    apply wpAny_bind
    refine wpAny_updateSeq_pair pa fun a3 pb sc => ?_
    apply wpAny_bind
    apply wpAny_letGo
    apply wpAny_pure
    apply wpAny_bind
    apply wpAny_bind
    apply wpAny_onRaise
    show wpAny _ _ (Builtin.SmallTypes.nextOf (.ref i2) >>= _) _ _ _
    apply wpAny_bind
    refine draw_end hh (((j2.move sa.extBut D.i2z).move sb.extBut D.i12.symm).move sc.extBut D.TOi2.symm) (((r2.move sa.extBut D.l2z).move sb.extBut D.l2i1).move sc.extBut D.l2TO) hy fun a4 e ed he => ?_
    obtain ⟨oe, g1, g2⟩ := he
    have zb : IsZip a4 z TI TO .ellipsis := ed _ _ D.i2z.symm (sc.extBut _ _ D.TOz.symm (sb.extBut _ _ D.i1z.symm za))
    have ne : e ≠ z := fun q => by subst q; rw [zb] at g1; cases g1; simp at g2
    exact wpAny_setField_rec zb (by simp) fun a5 _ se => hE a5 e (fun c o n1 n2 n3 n4 q => se.extBut _ _ n1 (ed _ _ n4 (sc.extBut _ _ n2 (sb.extBut _ _ n3 (sa.extBut _ _ n1 q))))) ⟨oe, se.extBut _ _ ne g1, g2⟩
/-- the iterator of a source, new -/
abbrev itObj (b : Bool) (l : Addr) : Obj := { cls := .type (if b then "tuple_iterator" else "list_iterator"), data := .fields #[.ref l, .int 0 0] }
abbrev zA (b : Bool) (h : Heap) (l1 : Addr) : Heap := h.push (itObj b l1)
abbrev zB (b b2 : Bool) (h : Heap) (l1 l2 : Addr) : Heap := (zA b h l1).push (itObj b2 l2)
abbrev zC (b b2 : Bool) (h : Heap) (l1 l2 : Addr) : Heap := (zB b b2 h l1 l2).push { cls := .type "tuple", data := .seq #[.ref h.objs.size, .ref (zA b h l1).objs.size] }
abbrev zD (b b2 : Bool) (h : Heap) (l1 l2 : Addr) : Heap := (zC b b2 h l1 l2).push { cls := .type "tuple", data := .seq #[.none, .none] }
abbrev zE (b b2 : Bool) (h : Heap) (l1 l2 : Addr) : Heap := (zD b b2 h l1 l2).push { cls := .type "zip", data := .fields #[.none, .bool false, .bool false, .ref (zB b b2 h l1 l2).objs.size, .ref (zC b b2 h l1 l2).objs.size] }
end
theorem zip_new (l1 l2 : Addr) (xs ys : Array Value) : Meets (Builtin.«zip.__new__» ⟨[.type "zip", .ref l1, .ref l2], []⟩) (fun _ R s => s.heap.IsList l1 xs ∧ s.heap.IsTuple l2 ys ∧ R (.ok (.ret (.ref (zD false true s.heap l1 l2).objs.size))) { s with heap := zE false true s.heap l1 l2 }) :=
  .of_wp fun prog w A R s h => by
    obtain ⟨hp, g, d, tk, os⟩ := s
    obtain ⟨q1, q2, h⟩ := h
    have sub := sub_zip
    have L1 : Heap.IsList (Shared.heap ⟨hp, g, d, tk, os⟩) l1 xs := q1
    have L2 : Heap.IsTuple (Shared.heap ⟨hp.push { cls := .type "list_iterator", data := .fields #[.ref l1, .int 0 0] }, g, d, tk, os⟩) l2 ys := Heap.IsTuple.push q2 _
    wp_walk using wpAny_pyIter_list L1, wpAny_pyIter_tuple L2
    exact ⟨_, rfl, h⟩
section
variable {P : Program} {w : World} {A : Around} {E : Value → Shared → Prop} {s : Shared} {b b2 : Bool}
theorem zip_called {l1 l2 : Addr} {xs ys : Array Value} {Q : Value → Shared → Prop} (q1 : s.heap.IsList l1 xs) (q2 : s.heap.IsTuple l2 ys)
    (h : ∀ h', IsZip h' (s.heap.objs.size + 4) (s.heap.objs.size + 2) (s.heap.objs.size + 3) .none → IsPair h' (s.heap.objs.size + 2) (.ref s.heap.objs.size) (.ref (s.heap.objs.size + 1)) → IsPair h' (s.heap.objs.size + 3) .none .none →
      ItOf false h' s.heap.objs.size l1 0 → ItOf true h' (s.heap.objs.size + 1) l2 0 → (∀ c o, s.heap.get? c = some o → h'.get? c = some o) → Q (.ref (s.heap.objs.size + 4)) { s with heap := h' }) :
    wpAny (model P w) A (call (.type "zip") [.ref l1, .ref l2]) Q E s := by
  refine callType_new F.called_zip (by decide) (F.typeCall_zip_2 _ _) (F.newCall_zip_2 _ _) (fun obj => F.args_object_init_3 obj _ _) F.entry_zip_new (zip_new l1 l2 xs ys) ⟨q1, q2, ?_⟩
  have nA : (zA false s.heap l1).objs.size = s.heap.objs.size + 1 := Heap.size_push ..
  have nB : (zB false true s.heap l1 l2).objs.size = s.heap.objs.size + 2 := by rw [Heap.size_push, nA]
  have nC : (zC false true s.heap l1 l2).objs.size = s.heap.objs.size + 3 := by rw [Heap.size_push, nB]
  have nD : (zD false true s.heap l1 l2).objs.size = s.heap.objs.size + 4 := by rw [Heap.size_push, nC]
  have up : ∀ {h : Heap} {c : Addr} {o : Obj} (p : Obj), h.get? c = some o → (h.push p).get? c = some o := fun p e => Heap.get?_push_of_some p e
  have gE : (zE false true s.heap l1 l2).get? (zD false true s.heap l1 l2).objs.size = some _ := Heap.get?_push_size _ rfl
  have gD : (zE false true s.heap l1 l2).get? (zC false true s.heap l1 l2).objs.size = some _ := up _ (Heap.get?_push_size _ rfl)
  have gC : (zE false true s.heap l1 l2).get? (zB false true s.heap l1 l2).objs.size = some _ := up _ (up _ (Heap.get?_push_size _ rfl))
  have gB : (zE false true s.heap l1 l2).get? (zA false s.heap l1).objs.size = some _ := up _ (up _ (up _ (Heap.get?_push_size _ rfl)))
  have gA : (zE false true s.heap l1 l2).get? s.heap.objs.size = some _ := up _ (up _ (up _ (up _ (Heap.get?_push_size _ rfl))))
  show _ ∧ _
  rw [nB, nC, nD] at gE
  rw [nA, nB] at gC
  rw [nC] at gD
  rw [nA] at gB
  rw [nD]
  exact ⟨⟨_, gE, rfl⟩, h _ gE gC gD ⟨_, gA, rfl, rfl⟩ ⟨_, gB, rfl, rfl⟩ fun c o e => up _ (up _ (up _ (up _ (up _ e))))⟩
theorem zip_next_item {z TI TO i1 i2 l1 l2 : Addr} {k1 k2 : Nat} {xs ys : Array Value} {x y v0 w0 : Value} {Q : Option Value → Shared → Prop} (D : ZipApart z TI TO i1 i2 l1 l2)
    (hz : IsZip s.heap z TI TO .none) (hTI : IsPair s.heap TI (.ref i1) (.ref i2)) (hTO : IsPair s.heap TO v0 w0) (j1 : ItOf b s.heap i1 l1 k1) (j2 : ItOf b2 s.heap i2 l2 k2) (r1 : RowOf b s.heap l1 xs) (r2 : RowOf b2 s.heap l2 ys) (hx : xs[k1]? = some x) (hy : ys[k2]? = some y)
    (hQ : ∀ h', IsZip h' z TI TO (rawInt s.heap.objs.size) → IsPair h' TO x y → ItOf b h' i1 l1 (k1 + 1) → ItOf b2 h' i2 l2 (k2 + 1) → IsPair h' s.heap.objs.size x y → h'.objs.size = s.heap.objs.size + 1 →
      (∀ c o, c ≠ z → c ≠ TO → c ≠ i1 → c ≠ i2 → s.heap.get? c = some o → h'.get? c = some o) → Q (some (.ref s.heap.objs.size)) { s with heap := h' }) : wpAny (model P w) A (pyNext (.ref z)) Q E s := by
  have ty : s.TypeIs (.ref z) "zip" := ⟨_, hz, rfl⟩
  unfold pyNext
  refine wpAny_bind (wpAny_attempt (wpAny_callSpecial?_slot (name := Str.ofString "__next__") ty F.slot_zip_next (wpAny_call_entry F.slot_zip_next ty F.entry_zip_next ?_ (F.args_zip_next_1 _))))
  exact zip_item D hz hTI hTO j1 j2 r1 r2 hx hy fun h' a1 a2 a3 a4 a5 a6 a7 => wpAny_pure (hQ h' a1 a2 a3 a4 a5 a6 a7)
theorem zip_next_end {z TI TO i1 i2 l1 l2 : Addr} {k1 k2 : Nat} {xs ys : Array Value} {v0 w0 : Value} {Q : Option Value → Shared → Prop} (hh : A.handled = none) (D : ZipApart z TI TO i1 i2 l1 l2)
    (hz : IsZip s.heap z TI TO .none) (hTI : IsPair s.heap TI (.ref i1) (.ref i2)) (hTO : IsPair s.heap TO v0 w0) (j1 : ItOf b s.heap i1 l1 k1) (j2 : ItOf b2 s.heap i2 l2 k2) (r1 : RowOf b s.heap l1 xs) (r2 : RowOf b2 s.heap l2 ys) (hend : xs[k1]? = none ∨ ys[k2]? = none)
    (hQ : ∀ h', (∀ c o, c ≠ z → c ≠ TO → c ≠ i1 → c ≠ i2 → s.heap.get? c = some o → h'.get? c = some o) → Q none { s with heap := h' }) : wpAny (model P w) A (pyNext (.ref z)) Q E s := by
  have ty : s.TypeIs (.ref z) "zip" := ⟨_, hz, rfl⟩
  unfold pyNext
  refine wpAny_bind (wpAny_attempt (wpAny_callSpecial?_slot (name := Str.ofString "__next__") ty F.slot_zip_next (wpAny_call_entry F.slot_zip_next ty F.entry_zip_next ?_ (F.args_zip_next_1 _))))
  refine zip_stop hh D hz hTI hTO j1 j2 r1 r2 hend fun h' e keep he => ?_
  obtain ⟨o, g1, g2⟩ := he
  exact wpAny_bind (wpAny_isInstance (T := "StopIteration") (b := true) ⟨o, g1, g2⟩ isSubtype_stop (wpAny_pure (hQ _ keep)))
/-- the list at a and the tuple at c as they stand at each turn -/
def ItzM (K : PySem.W.Frag) (a c : Addr) : It :=
  ⟨fun i H => ∃ (xs ys : List V) (x y : V), SqL K H a xs ∧ SqT K H c ys ∧ xs[i]? = some x ∧ ys[i]? = some y,
    fun i H v H' => ∃ T x y, v = .ref T ∧ H T = none ∧ H' = upd H T (.tup [x, y]) ∧ (∀ xs, SqL K H a xs → xs[i]? = some x) ∧ ∀ ys, SqT K H c ys → ys[i]? = some y,
    fun i H => ∃ xs ys : List V, SqL K H a xs ∧ SqT K H c ys ∧ (xs.length ≤ i ∨ ys.length ≤ i)⟩
theorem five {z TI TO i1 i2 c : Addr} (h : c ∈ [z, TI, TO, i1, i2]) : c = z ∨ c = TI ∨ c = TO ∨ c = i1 ∨ c = i2 := by simpa using h
theorem turn_zipM {K : PySem.W.Frag} {elts : List Expr} {kk : Nat} {tpos : Pos} {a c z TI TO i1 i2 : Addr} (D : ZipApart z TI TO i1 i2 a c) :
    Turn P w K (.Tuple elts kk tpos) (ItzM K a c) [z, TI, TO, i1, i2] z (fun i h => IsZip h z TI TO .none ∧ IsPair h TI (.ref i1) (.ref i2) ∧ (∃ x y, IsPair h TO x y) ∧ ItOf false h i1 a i ∧ ItOf true h i2 c i) where
  mem := by simp
  obj := fun i h ⟨hz, hTI, ⟨x, y, hTO⟩, j1, j2⟩ d hd => by
    rcases five hd with q | q | q | q | q <;> subst q
    · exact ⟨_, hz, fun v e => nomatch e⟩
    · exact ⟨_, hTI, fun v e => nomatch e⟩
    · exact ⟨_, hTO, fun v e => nomatch e⟩
    · exact j1.there
    · exact j2.there
  keep := fun i h h' ⟨hz, hTI, ⟨x, y, hTO⟩, j1, j2⟩ k => ⟨k z (by simp) _ hz, k TI (by simp) _ hTI, ⟨x, y, k TO (by simp) _ hTO⟩, j1.to fun o e => k i1 (by simp) o e, j2.to fun o e => k i2 (by simp) o e⟩
  item := by
    intro X hP hw hK hc i pins s σ H E I hf st hg
    subst hP hw hK
    obtain ⟨hz, hTI, ⟨x0, y0, hTO⟩, j1, j2⟩ := st
    obtain ⟨xs, ys, x, y, sx, sy, hx, hy⟩ := hg
    obtain ⟨us, rx, p1, _⟩ := I.list sx
    obtain ⟨us2, ry, p2, _⟩ := I.tuple sy
    obtain ⟨u, hu, ru⟩ := rx.get hx
    obtain ⟨u2, hu2, ru2⟩ := ry.get hy
    have zl : z < s.heap.objs.size := Heap.lt_size hz
    have r1 : RowOf false s.heap a us.toArray := p1.isList
    have r2 : RowOf true s.heap c us2.toArray := p2
    refine zip_next_item D hz hTI hTO j1 j2 r1 r2 (x := u) (y := u2) (by simpa using hu) (by simpa using hu2) fun a1 za pa ja jb pn hs keep => ?_
    refine ⟨_, rfl, wpAny_letOwnedTupleGo_zip (s := { s with heap := a1 }) za fun a2 zb sb => ?_⟩
    have pn2 : a2.get? s.heap.objs.size = some { cls := .type "tuple", data := .seq #[u, u2] } := (sb.2 _ (Nat.ne_of_gt zl)).trans pn
    have new : ObjOk X.prog X.w (upd H s.heap.objs.size (.tup [x, y])) a2 s.heap.objs.size (.tup [x, y]) := ⟨by show 2 ≤ sizeLine; decide, [u, u2], .cons ru (.cons ru2 .nil), ⟨_, pn2, rfl, _, rfl⟩⟩
    have out : ∀ {d : Addr}, d ∉ [z, TI, TO, i1, i2] → d ≠ z ∧ d ≠ TO ∧ d ≠ i1 ∧ d ≠ i2 := fun {d} hd => ⟨fun q => hd (by simp [q]), fun q => hd (by simp [q]), fun q => hd (by simp [q]), fun q => hd (by simp [q])⟩
    have I1 : Inv X pins σ (upd H s.heap.objs.size (.tup [x, y])) { s with heap := a2 } := I.turnedNew (t' := s.toks) (ch := [z, TI, TO, i1, i2]) (fun d o hd q => (sb.2 d (out hd).1).trans (keep d o (out hd).1 (out hd).2.1 (out hd).2.2.1 (out hd).2.2.2 q)) hf (Nat.le_refl _) new
    refine ⟨.ref s.heap.objs.size, _, I1, rfl, ⟨_, x, y, rfl, I.hok.fresh (Nat.le_refl _), rfl, fun l hl => by rw [I.list_inj hl sx]; exact hx, fun l hl => by rw [I.tuple_inj hl sy]; exact hy⟩, ⟨zb, (sb.2 _ D.TIz).trans (keep _ _ D.TIz D.TITO D.TIi1 D.TIi2 hTI), ⟨u, u2, (sb.2 _ D.TOz).trans pa⟩, ja.to fun o q => (sb.2 _ D.i1z).trans q, jb.to fun o q => (sb.2 _ D.i2z).trans q⟩, fun d hd => ?_⟩
    have lt : d < s.heap.objs.size := by
      rcases five hd with q | q | q | q | q <;> subst q
      · exact zl
      · exact Heap.lt_size hTI
      · exact Heap.lt_size hTO
      · obtain ⟨o, e, _⟩ := j1.there
        exact Heap.lt_size e
      · obtain ⟨o, e, _⟩ := j2.there
        exact Heap.lt_size e
    rw [upd_ne (Nat.ne_of_lt lt)]
    exact (hf d hd).1
  done := by
    intro X hP hw hK hc i pins s σ H E I hf st hg
    subst hP hw hK
    obtain ⟨hz, hTI, ⟨x0, y0, hTO⟩, j1, j2⟩ := st
    obtain ⟨xs, ys, sx, sy, he⟩ := hg
    obtain ⟨us, rx, p1, _⟩ := I.list sx
    obtain ⟨us2, ry, p2, _⟩ := I.tuple sy
    have n1 := rx.length
    have n2 := ry.length
    have r1 : RowOf false s.heap a us.toArray := p1.isList
    have r2 : RowOf true s.heap c us2.toArray := p2
    have hn : us.toArray[i]? = none ∨ us2.toArray[i]? = none := by
      rcases he with q | q
      · left; simp; omega
      · right; simp; omega
    have out : ∀ {d : Addr}, d ∉ [z, TI, TO, i1, i2] → d ≠ z ∧ d ≠ TO ∧ d ≠ i1 ∧ d ≠ i2 := fun {d} hd => ⟨fun q => hd (by simp [q]), fun q => hd (by simp [q]), fun q => hd (by simp [q]), fun q => hd (by simp [q])⟩
    exact zip_next_end (I.ok.hd hc) D hz hTI hTO j1 j2 r1 r2 hn fun h' keep => ⟨rfl, I.turnedL (t' := s.toks) (ch := [z, TI, TO, i1, i2]) (fun d o hd q => keep d o (out hd).1 (out hd).2.1 (out hd).2.2.1 (out hd).2.2.2 q) hf⟩
  self := fun A i s Q E st h => wpAny_pyIter_zip st.1 h
end
def iZipM (K : PySem.W.Frag) (ta : TA) : TI := fun σ H R => ta σ H fun vs H1 => ∃ a b xs ys, vs = [.ref a, .ref b] ∧ SqL K H1 a xs ∧ SqT K H1 b ys ∧ R (ItzM K a b) H1
theorem pi_zipM {X : Cx} {e e2 : Expr} {ta : TA} {p pos tpos : Pos} {elts : List Expr} {kk : Nat} (hg : Gl X "zip") (hm : X.mg "zip" = none) (ha : PA X [e, e2] ta)
    (hs : starEach [e, e2] X.env = (false, eval e X.env) :: starEach [e2] X.env := by rfl) (hpl : (backTo pos (starEach [e2] X.env)).any (·.1) = false := by rfl) :
    PI X (.Tuple elts kk tpos) (.Call (.Name "zip" p) [e, e2] [] pos) (iZipM X.K ta) := by
  refine ⟨fun pins s σ H R I h => ?_⟩
  refine Call_ (ld_blt I hg hm PyProof.Rows.boot_zip (PyProof.Rows.callWith_type1 (thn (ha.run pos pins s σ H _ I h) fun us t ⟨vs, H1, I1, rv, q⟩ => ?_) hs hpl))
  obtain ⟨a, c, xs, ys, rfl, sx, sy, q⟩ := q
  obtain ⟨u, u2, rfl, ra, rc⟩ : ∃ u u2, us = [u, u2] ∧ L2.RelV (.ref a) u ∧ L2.RelV (.ref c) u2 := by
    cases rv with
    | cons r1 r2 =>
      cases r2 with
      | cons r2 r3 =>
        cases r3
        exact ⟨_, _, rfl, r1, r2⟩
  cases ra
  cases rc
  obtain ⟨its, _, p1, _⟩ := I1.list sx
  obtain ⟨its2, _, p2, _⟩ := I1.tuple sy
  have q1 : RowOf false t.heap a its.toArray := p1.isList
  have q2 : RowOf true t.heap c its2.toArray := p2
  refine zip_called p1.isList p2 fun h' hz hTI hTO j1 j2 keep => wpAny_pyIter_zip hz ?_
  have I2 : Inv X pins σ H1 { t with heap := h' } := I1.kept (t' := t.toks) keep
  refine ⟨t.heap.objs.size + 4, [t.heap.objs.size + 4, t.heap.objs.size + 2, t.heap.objs.size + 3, t.heap.objs.size, t.heap.objs.size + 1], _, _, H1, rfl, I2, turn_zipM (PySem.W.ktu_apart t.heap.objs.size a c q1.lt q2.lt), ⟨hz, hTI, ⟨_, _, hTO⟩, j1, j2⟩, fun d hd => ?_, q⟩
  have le : t.heap.objs.size ≤ d := by
    rcases five hd with q | q | q | q | q <;> rw [q] <;> first | exact Nat.le_add_right _ _ | exact Nat.le_refl _
  exact I1.fpOk le (I1.hok.fresh le)
def zipMG : List D → Env → MS → R (List D) := fun ds e m => match ds with
  | [.lst xs, .tup ys] => .ok (zipD xs ys) e m
  | _ => .no
def wZipM (f : FA) : FA := fun e m => (f e m).bind zipMG
section
variable {X : Cx} {c : C0} {Wx : WX} {a b : Expr} {pos p tpos : Pos} {elts : List Expr} {kk : Nat} {f : FA}
theorem ei_zipM (hg : Gl X "zip") (hm : X.mg "zip" = none) (ha : EA X c Wx [a, b] f) (hs : starEach [a, b] X.env = (false, eval a X.env) :: starEach [b] X.env := by rfl)
    (hpl : (backTo pos (starEach [b] X.env)).any (·.1) = false := by rfl) : EI X c Wx (.Tuple elts kk tpos) (.Call (.Name "zip" p) [a, b] [] pos) (wZipM f) :=
  (pi_zipM hg hm ha hs hpl).impQ fun σ H Q ⟨W, o, e, m, M, h⟩ => ⟨W, o, e, m, M, (Post.bind (Rp := Reps X.K X.mg) h).mono fun v H1 ⟨W1, o1, e1, m1, d1, u1, M1, r1, h1⟩ => by
    unfold zipMG at h1
    split at h1
    · rename_i xs ys
      obtain ⟨w, w', rfl, q1, q2⟩ := r1.two_inv
      obtain ⟨p, vs, rfl, hp, hz1, r⟩ := q1
      obtain ⟨p', ws, rfl, hp', hz2, r'⟩ := q2
      refine ⟨p, p', vs, ws, rfl, SqL.of (M1.sub _ _ hp), SqT.of (M1.sub _ _ hp'), Post.here (Rp := RpW X.K X.mg) h1 M1 ⟨⟨fun i d H' hs hi => ?_, fun i H' hs hi => ?_⟩, by rw [zipD_len]; omega⟩⟩
      · obtain ⟨x, y, h3, h4, rfl⟩ := zipD_get hi
        obtain ⟨vx, a1, a2⟩ := r.get h3
        obtain ⟨vy, b1, b2⟩ := r'.get h4
        refine ⟨⟨vs, ws, vx, vy, SqL.of (hs _ _ hp), SqT.of (hs _ _ hp'), a1, b1⟩, fun z H'' ⟨T, x', y', ez, hT, eH, k1, k2⟩ => ?_⟩
        have f1 := k1 vs (SqL.of (hs _ _ hp))
        have f2 := k2 ws (SqT.of (hs _ _ hp'))
        rw [a1] at f1
        rw [b1] at f2
        cases f1
        cases f2
        exact .inr ⟨T, _, ez, hT, eH, fun W2 u hW => rep_tup hW (by show 2 ≤ sizeLine; decide) ⟨_, _, rfl, a2.up u, _, _, rfl, b2.up u, rfl⟩⟩
      · rw [zipD_len] at hi
        exact ⟨vs, ws, SqL.of (hs _ _ hp), SqT.of (hs _ _ hp'), by rw [← r.len, ← r'.len]; omega⟩
    · exact h1.elim⟩
end
@[simp] theorem w_zipM {fa : FA} {e : Env} {m : MS} : wZipM fa e m = (fa e m).bind zipMG := rfl
@[simp] theorem q_zipM {xs ys : List D} {e : Env} {m : MS} : zipMG [.lst xs, .tup ys] e m = .ok (zipD xs ys) e m := rfl
end Qd
end
section
set_option Elab.async false
set_option linter.all false
set_option autoImplicit false
set_option maxRecDepth 100000

/-! str of numbers and of texts; int of texts. -/
namespace Qd
open PySem PySem.Spec PyProof.Rows L2
section
variable {X : Cx} {c : C0} {Wx : WX} {x1 : Expr} {xs : List Expr} {f : FA} {p pos : Pos}
theorem _root_.L2.CallR.or2 {X : Cx} {f : Value} {r1 r2 : List V → Hp → VK → Prop} (h1 : CallR X f r1) (h2 : CallR X f r2) : CallR X f (fun xs H Q => r1 xs H Q ∨ r2 xs H Q) := by
  intro pins s σ H xs us Q I r h
  rcases h with h | h
  · exact h1 pins s σ H xs us Q I r h
  · exact h2 pins s σ H xs us Q I r h
/-- str(x) of data -/
def strG : List D → Option D
  | [.int i] => if i.natAbs.log2 < 1920 then some (.str (toString i)) else none
  | [.str a] => some (.str a)
  | _ => none
theorem okS_int {i : Int} (h : i.natAbs.log2 < 1920) : okS (Str.ofString (toString i)) = true := by
  refine okS_mk ?_ (strOk_shown (PyData.int i) (by rfl))
  have h2 : i.natAbs < 10 ^ 600 := by
    by_cases z : i.natAbs = 0
    · rw [z]
      exact Nat.pow_pos (by decide)
    · exact Nat.lt_of_lt_of_le ((Nat.log2_lt z).mp h) (by decide +kernel)
  have e := int_text_length_le10 (k := 600) (by decide) h2
  rw [PySem.ofString_length]
  omega
theorem cd_str : CaD X c Wx (fun xs H Q => (∃ i : Int, xs = [.int i] ∧ i.natAbs.log2 < 1920 ∧ Q (.str (toString i)) H) ∨ ∃ a, xs = [.str a] ∧ Q (.str a) H) (purA strG) := by
  intro W o σ H e m xs vs Q M rx h
  obtain ⟨d, hd, h⟩ := Post.fin h
  unfold strG at hd
  split at hd
  · rename_i i
    split at hd
    · rename_i hi
      cases hd
      obtain ⟨v, rfl, rfl⟩ := rx.one_inv
      exact .inl ⟨_, rfl, hi, Post.here h M ⟨rfl, okS_int hi⟩⟩
    · cases hd
  · cases hd
    obtain ⟨v, rfl, rfl, ok⟩ := rx.one_inv
    exact .inr ⟨_, rfl, Post.here h M ⟨rfl, ok⟩⟩
  · cases hd
theorem ee_strD (hgl : Gl X "str") (hm : X.mg "str" = none) (ha : EA X c Wx (x1 :: xs) f) (he : starEach (x1 :: xs) X.env = (false, eval x1 X.env) :: starEach xs X.env := by rfl) (hpl : (backTo pos (starEach xs X.env)).any (·.1) = false := by rfl) :
    EE X c Wx (.Call (.Name "str" p) (x1 :: xs) [] pos) (xA f (purA strG)) := ee_callT (call_str_int.or2 SkE.call_str_str) (by decide +kernel) cd_str hgl hm ha (by decide) (by decide) he hpl
/-- int(x) of numbers and of texts -/
def int2G : List D → Option D
  | [.int i] => some (.int i)
  | [.str a] => if a.length ≤ 640 then (PySem.intText? a).map .int else none
  | _ => none
theorem cd_int2 : CaD X c Wx (fun xs H Q => ((∃ i, xs = [.int i] ∧ Q (.int i) H) ∨ ∃ k, xs = [.bl k] ∧ Q (.int (if k then 1 else 0)) H) ∨ ∃ a n, xs = [.str a] ∧ PySem.intText? a = some n ∧ a.length ≤ 640 ∧ Q (.int n) H) (purA int2G) := by
  intro W o σ H e m xs vs Q M rx h
  obtain ⟨d, hd, h⟩ := Post.fin h
  unfold int2G at hd
  split at hd
  · cases hd
    obtain ⟨v, rfl, rfl⟩ := rx.one_inv
    exact .inl (.inl ⟨_, rfl, Post.here h M rfl⟩)
  · rename_i a
    split at hd
    · rename_i hl
      obtain ⟨n, hn, rfl⟩ := Option.map_eq_some_iff.mp hd
      obtain ⟨v, rfl, rfl, ok⟩ := rx.one_inv
      exact .inr ⟨_, n, rfl, hn, hl, Post.here h M rfl⟩
    · cases hd
  · cases hd
theorem ee_int2 (hgl : Gl X "int") (hm : X.mg "int" = none) (ha : EA X c Wx (x1 :: xs) f) (he : starEach (x1 :: xs) X.env = (false, eval x1 X.env) :: starEach xs X.env := by rfl) (hpl : (backTo pos (starEach xs X.env)).any (·.1) = false := by rfl) :
    EE X c Wx (.Call (.Name "int" p) (x1 :: xs) [] pos) (xA f (purA int2G)) := ee_callT (call_int1.or2 call_int_str) (by decide +kernel) cd_int2 hgl hm ha (by decide) (by decide) he hpl
end
@[simp] theorem q_strI {i : Int} : strG [.int i] = if i.natAbs.log2 < 1920 then some (.str (toString i)) else none := rfl
@[simp] theorem q_strS {a : Str} : strG [.str a] = some (.str a) := rfl
theorem FnRK.ofN {P : Program} {w : World} {K : PySem.W.Frag} {mg : Str → Option Value} {base : Heap} {CX : CXT} {k n : Nat} {g : Addr} {fd : FuncData} {ps ks : List Str} {idx : List Nat} {sp : Sp} (F : FnOk P w K mg base CX k g fd ps sp)
    (hb : KBn K fd ps n ks (fun us ws => permL idx us ws) (fun vs zs => permL idx vs zs)) : FnRK P w K mg base CX k g n ks idx sp := by
  intro A outer s H us ws vs zs Q E hr e0 r rz l1 l2 hs
  exact F.run A outer s H ⟨us, ks.zip ws⟩ (permL idx us ws) (permL idx vs zs) Q E hr e0 (hb.to s us ws (e0.mod.kin.keeps fun a o e => (e0.bs a o e).1) (r.length.symm.trans l1) (rz.length.symm.trans l2)) (hb.rel r rz) hs
end Qd
end
section
set_option Elab.async false
set_option linter.all false
set_option autoImplicit false
set_option maxRecDepth 100000

/-! name[k] = d, the name's own list. -/
namespace Qd
open PySem PySem.Spec PyProof.Rows L2
section
variable {X : Cx} {c : C0} {b : Expr} {pos p : Pos} {x : Str} {i : Nat} {fb : FE}
def hIxN (i : Nat) (fb : FE) : FH := fun d e m => if hasS e i then (fb e m).bindN fun y e m => match e[i]? with
  | some (some (.ol l)) => match y with
    | .int k => match ixN l.length k with
      | some n => .ok () (e.set i (some (.ol (l.set n d)))) m
      | none => .no
    | _ => .no
  | _ => .no
  else .no
theorem eh_ixN (hN : X.N[i]? = some x) (hv : Vis X.env.scope x) (hb : EE X c (fun _ _ _ _ => False) b fb) (hd : (x == ("__debug__" : Str)) = false := by decide) (hcd : (x == ("__classdict__" : Str)) = false := by decide)
    (hasg : ∀ v, assign (.Subscript (.Name x p) b pos) X.env v = (do
      let ov ← holding [v] (eval (.Name x p) X.env)
      let iv ← holding [v, ov] (eval b X.env)
      standAt pos
      holding [v, ov, iv] (setItem ov iv v)
      release [v, ov, iv] []) := by intro _; rfl) : EH X c (.Subscript (.Name x p) b pos) (hIxN i fb) :=
  (pg_sub (pe_var hN hv hd hcd) hb set_list hasg).impQ fun v σ H Q ⟨W, o, e, m, d, M, r, h⟩ => by
    unfold hIxN at h
    split at h
    case isFalse => exact h.elim
    rename_i hs
    obtain ⟨va, hσ⟩ := M.has hs
    refine ⟨va, hσ, W, o, e, m, M, ?_⟩
    cases q2 : fb e m with
    | no => rw [q2] at h; exact h.elim
    | ex n ns ds e1 m1 => rw [q2] at h; exact h.elim
    | ok y1 e2 m2 =>
      rw [q2] at h
      simp only [R.bindN_ok] at h
      intro W2 o2 H2 v2 u2 M2 r2
      split at h
      · rename_i l hl
        cases y1 with
        | int k =>
          simp only at h
          split at h
          · rename_i n hn
            obtain ⟨pp, vs, ho, hv', hp, hz, rl⟩ := M2.slot hσ hl
            cases hv'
            cases r2
            refine ⟨pp, vs, k, n, rfl, rfl, hp, by rw [← rl.len]; exact hn, ?_⟩
            exact h W2 o2 σ _ u2 (M2.turn ho hl fun y hy ⟨a2, vs2, g1, g2, g3, g4, g5⟩ => ⟨pp, vs.set n v, ho, by rw [ho] at g1; cases g1; exact g2, upd_same, by rw [List.length_set]; exact hz, (rl.set (r.up u2) n)⟩)
          · exact h.elim
        | _ => exact h.elim
      · exact h.elim
end
@[simp] theorem q_hIxN {i : Nat} {fb : FE} {d : D} {e : Env} {m : MS} : hIxN i fb d e m = if hasS e i then (fb e m).bindN fun y e m => (match e[i]? with
  | some (some (.ol l)) => match y with
    | .int k => match ixN l.length k with
      | some n => .ok () (e.set i (some (.ol (l.set n d)))) m
      | none => .no
    | _ => .no
  | _ => .no)
  else .no := rfl
end Qd
end
section

end
section
set_option Elab.async false
set_option linter.all false
set_option autoImplicit false
set_option maxRecDepth 100000
set_option maxHeartbeats 4000000
namespace Sp
open PySem PySem.Spec PyProof.Rows L2 Qd
--@ is_name
-- is_name: 0 value, 1 sign
noncomputable def b_is_name : FS := sSeq (sIf (tOr (tNt (tOf (xA (aCons (xVar 0) (aCons (xC (.ty "str")) (aNil))) (purA isiG)))) (tNt (tOf (xChn (xC (.int 1)) (xA (aCons (xVar 0) (aNil)) lenG) (xC (.int 8)) opLe opLe)))) (sRet (xC (.bl false))) (sNx)) (sRet (vAn (x2 (x2 (xVar 0) (xC (.int 0)) ixG) (xC (.str "abcdefghijklmnopqrstuvwxyz")) (pur2 opIn)) (xA (aCons (xLcP (wAny (xVar 0)) (gN 1) [1] (tAll) (x2 (xVar 1) (xC (.str "abcdefghijklmnopqrstuvwxyz0123456789")) (pur2 opIn))) (aNil)) (purA allG))))
noncomputable def F_is_name : FF := defF 1 2 b_is_name
--@ is_group
-- is_group: 0 value, 1 k, 2 name
noncomputable def b_is_group : FS := sSeq (sIf (tOr (tNt (tOf (xA (aCons (xVar 0) (aCons (xC (.ty "tuple")) (aNil))) (purA isiG)))) (tOr (tOf (x2 (xA (aCons (xVar 0) (aNil)) lenG) (xC (.int 0)) (pur2 opEq))) (tNt (tOf (xA (aCons (xLcP (wAny (xVar 0)) (gN 2) [2] (tAll) (xCall F_is_name (aCons (xVar 2) (aNil)))) (aNil)) (purA allG)))))) (sRet (xC (.bl false))) (sNx)) (sRet (xA (aCons (xLcP (wRng1 (aCons (x2 (xA (aCons (xVar 0) (aNil)) lenG) (xC (.int 1)) (pur2 subD)) (aNil))) (gN 1) [1] (tAll) (x2 (x2 (xVar 0) (xVar 1) ixG) (x2 (xVar 0) (x2 (xVar 1) (xC (.int 1)) (pur2 addD)) ixG) (pur2 opLt))) (aNil)) (purA allG)))
noncomputable def F_is_group : FF := defF 1 3 b_is_group
--@ wrong_group
-- wrong_group: 0 groups, 1 names, 2 k, 3 group, 4 name
noncomputable def b_wrong_group : FS := sSeq (sIf (tOr (tNt (tOf (xA (aCons (xVar 0) (aCons (xC (.ty "tuple")) (aNil))) (purA isiG)))) (tOf (x2 (xA (aCons (xVar 0) (aNil)) lenG) (xC (.int 0)) (pur2 opEq)))) (sRet (xC .non)) (sNx)) (sSeq (sSet 1 (xA (aNil) (purA mkLst))) (sSeq (sFor (wEnum (aCons (xVar 0) (aNil))) (gT 2 (gsCons (gN 2) (gsCons (gN 3) (gsNil)))) [2, 3] (sSeq (sIf (tOr (tNt (tOf (xCall F_is_group (aCons (xVar 3) (aNil))))) (tOr (tOf (xA (aCons (xLcP (wAny (xVar 3)) (gN 4) [4] (tAll) (x2 (xVar 4) (xVar 1) (pur2 opIn))) (aNil)) (purA anyG))) (tOf (x2 (x2 (xA (aCons (xVar 1) (aNil)) lenG) (xA (aCons (xVar 3) (aNil)) lenG) (pur2 addD)) (xC (.int 8)) (pur2 opGt))))) (sRet (xVar 2)) (sNx)) (sSet 1 (x2 (xVar 1) (xLcP (wAny (xVar 3)) (gN 4) [4] (tAll) (xVar 4)) (pur2 addD))))) (sRet (x1 (xC (.int 1)) (pur1 negD)))))
noncomputable def F_wrong_group : FF := defF 1 5 b_wrong_group
--@ Deed_init
-- Deed.__init__: 0 self, 1 groups, 2 wrong, 3 thing, 4 k, 5 group
noncomputable def b_Deed_init : FS := sSeq (sSet 2 (xCall F_wrong_group (aCons (xVar 1) (aNil)))) (sSeq (sIf (tOf (x2 (xVar 2) (x1 (xC (.int 1)) (pur1 negD)) (pur2 opNe))) (sNo) (sNx)) (sSeq (sFld "Deed" 0 "parted" (xVar 1)) (sFld "Deed" 0 "ranks" (xDc2P (wEnum (aCons (xVar 1) (aNil))) (gT 2 (gsCons (gN 4) (gsCons (gN 5) (gsNil)))) [4, 5, 3] (tAll) (wAny (xVar 5)) (gN 3) [3] (tAll) (xVar 3) (xVar 4)))))
noncomputable def I_Deed_init : FI := initF "Deed" 2 6 b_Deed_init
--@ is_thing
-- is_thing: 0 value, 1 things
noncomputable def b_is_thing : FS := sRet (vAn (xA (aCons (xVar 0) (aCons (xC (.ty "str")) (aNil))) (purA isiG)) (x2 (xVar 0) (xVar 1) (pur2 opIn)))
noncomputable def F_is_thing : FF := defF 2 2 b_is_thing
--@ check_things
-- check_things: 0 value, 1 things, 2 k, 3 thing
noncomputable def b_check_things : FS := sSeq (sIf (tOr (tNt (tOf (xA (aCons (xVar 0) (aCons (xC (.ty "tuple")) (aNil))) (purA isiG)))) (tOf (x2 (xA (aCons (xVar 0) (aNil)) lenG) (xC (.int 0)) (pur2 opEq)))) (sNo) (sNx)) (sFor (wEnum (aCons (xVar 0) (aNil))) (gT 2 (gsCons (gN 2) (gsCons (gN 3) (gsNil)))) [2, 3] (sIf (tOr (tNt (tOf (xCall F_is_thing (aCons (xVar 3) (aCons (xVar 1) (aNil)))))) (tAn (tOf (x2 (xVar 2) (xC (.int 0)) (pur2 opGt))) (tOf (x2 (xVar 3) (x2 (xVar 0) (x2 (xVar 2) (xC (.int 1)) (pur2 subD)) ixG) (pur2 opLe))))) (sNo) (sNx)))
noncomputable def F_check_things : FF := defF 2 4 b_check_things
--@ Deed_things
-- Deed.things: 0 self, 1 group, 2 thing
noncomputable def b_Deed_things : FS := sRet (xA (aCons (xA (aCons (xLc2P (wAny (x1 (xVar 0) (pur1 (fldG "Deed" "parted")))) (gN 1) [1, 2] (tAll) (wAny (xVar 1)) (gN 2) [2] (tAll) (xVar 2)) (aNil)) (purA srtDG)) (aNil)) (purA tupG))
noncomputable def F_Deed_things : FF := defF 1 3 b_Deed_things
--@ grouped
-- grouped: 0 things, 1 ranks, 2 found, 3 rank, 4 thing
noncomputable def b_grouped : FS := sSeq (sSetV 2 (vLst (aNil))) (sSeq (sFor (wAny (xA (aCons (xDcP (wAny (xVar 0)) (gN 4) [4] (tAll) (x2 (xVar 1) (xVar 4) ixG) (xC (.bl true))) (aNil)) (purA srtDG))) (gN 3) [3, 4] (sDrop (onL 2 (aCons (xA (aCons (xA (aCons (xLcP (wAny (xVar 0)) (gN 4) [4] (tOf (x2 (x2 (xVar 1) (xVar 4) ixG) (xVar 3) (pur2 opEq))) (xVar 4)) (aNil)) (purA srtDG)) (aNil)) (purA tupG)) (aNil)) (apG 2)))) (sRet (xOwn 2 (fun l => some (.tup l)) (purA tupG))))
noncomputable def F_grouped : FF := defF 2 5 b_grouped
--@ Deed_only
-- Deed.only: 0 self, 1 things
noncomputable def b_Deed_only : FS := sSeq (sDrop (xCall F_check_things (aCons (xVar 1) (aCons (xProp "Deed" F_Deed_things (xVar 0)) (aNil))))) (sRet (xMake "Deed" I_Deed_init (aCons (xCall F_grouped (aCons (xVar 1) (aCons (x1 (xVar 0) (pur1 (fldG "Deed" "ranks"))) (aNil)))) (aNil))))
noncomputable def F_Deed_only : FF := defF 2 2 b_Deed_only
--@ Deed_eq
-- Deed.__eq__: 0 self, 1 other
noncomputable def b_Deed_eq : FS := sRet (vAn (xA (aCons (xVar 1) (aCons (xC (.glo "Deed")) (aNil))) (purA (isCG "Deed" (clsB "Deed")))) (x2 (x1 (xVar 0) (pur1 (fldG "Deed" "parted"))) (x1 (xVar 1) (pur1 (fldG "Deed" "parted"))) (pur2 opEq)))
noncomputable def F_Deed_eq : FF := defF 2 2 b_Deed_eq
--@ Deed_groups
-- Deed.groups: 0 self
noncomputable def b_Deed_groups : FS := sRet (x1 (xVar 0) (pur1 (fldG "Deed" "parted")))
noncomputable def F_Deed_groups : FF := defF 1 1 b_Deed_groups
--@ wrong_in_order
-- wrong_in_order: 0 value, 1 things, 2 k, 3 thing
noncomputable def b_wrong_in_order : FS := sSeq (sIf (tNt (tOf (xA (aCons (xVar 0) (aCons (xC (.ty "tuple")) (aNil))) (purA isiG)))) (sRet (xC .non)) (sNx)) (sSeq (sFor (wEnum (aCons (xVar 0) (aNil))) (gT 2 (gsCons (gN 2) (gsCons (gN 3) (gsNil)))) [2, 3] (sIf (tOr (tNt (tOf (xCall F_is_thing (aCons (xVar 3) (aCons (xVar 1) (aNil)))))) (tOf (x2 (xVar 3) (xSl (xVar 0) oNone (oSome (xVar 2))) (pur2 opIn)))) (sRet (xVar 2)) (sNx))) (sRet (xIf (tOf (x2 (xA (aCons (xVar 0) (aNil)) lenG) (xA (aCons (xVar 1) (aNil)) lenG) (pur2 opEq))) (x1 (xC (.int 1)) (pur1 negD)) (xA (aCons (xVar 0) (aNil)) lenG))))
noncomputable def F_wrong_in_order : FF := defF 2 4 b_wrong_in_order
--@ check_order
-- check_order: 0 order, 1 things, 2 wrong
noncomputable def b_check_order : FS := sSeq (sSet 2 (xCall F_wrong_in_order (aCons (xVar 0) (aCons (xVar 1) (aNil))))) (sIf (tOf (x2 (xVar 2) (x1 (xC (.int 1)) (pur1 negD)) (pur2 opNe))) (sNo) (sNx))
noncomputable def F_check_order : FF := defF 2 3 b_check_order
--@ done
-- done: 0 groups, 1 order, 2 group, 3 thing
noncomputable def b_done : FS := sRet (xA (aCons (xLc2P (wAny (xVar 0)) (gN 2) [2, 3] (tAll) (wAny (xVar 1)) (gN 3) [3] (tOf (x2 (xVar 3) (xVar 2) (pur2 opIn))) (xVar 3)) (aNil)) (purA tupG))
noncomputable def F_done : FF := defF 2 4 b_done
--@ Deed_call
-- Deed.__call__: 0 self, 1 order
noncomputable def b_Deed_call : FS := sSeq (sDrop (xCall F_check_order (aCons (xVar 1) (aCons (xProp "Deed" F_Deed_things (xVar 0)) (aNil))))) (sRet (xCall F_done (aCons (x1 (xVar 0) (pur1 (fldG "Deed" "parted"))) (aCons (xVar 1) (aNil)))))
noncomputable def F_Deed_call : FF := defF 2 2 b_Deed_call
--@ Deed_neg
-- Deed.__neg__: 0 self
noncomputable def b_Deed_neg : FS := sRet (xMake "Deed" I_Deed_init (aCons (x1 (x1 (xVar 0) (pur1 (fldG "Deed" "parted"))) (pur1 revG)) (aNil)))
noncomputable def F_Deed_neg : FF := defF 1 1 b_Deed_neg
--@ law_draw
-- _law_draw: 0 _law_purse_here, 1 _law_many, 2 _law_digit
noncomputable def b_law_draw : FS := sSeq (sIf (tOf (x2 (x2 (xVar 0) (xC (.int 0)) ixG) (xC (.int 0)) (pur2 opGt))) (sSeq (sAsg (xA (aCons (x2 (xVar 0) (xC (.int 0)) ixG) (aCons (xVar 1) (aNil))) (purA divmodG)) (hT 2 (hsCons (hObj (xVar 0) (xC (.int 0))) (hsCons (hN_ 2) (hsNil))))) (sRet (xVar 2))) (sNx)) (sSeq (sAsg (x2 (xA (aCons (x2 (x2 (x2 (xVar 0) (xC (.int 1)) ixG) (xC (.int 69621)) (pur2 mulD)) (xC (.int 40503)) (pur2 addD)) (aNil)) (purA intG)) (xC (.int 2147483647)) (pur2 modD)) (hObj (xVar 0) (xC (.int 1)))) (sRet (x2 (xA (aCons (x2 (x2 (xVar 0) (xC (.int 1)) ixG) (xC (.int 1024)) (pur2 fdivD)) (aNil)) (purA intG)) (xVar 1) (pur2 modD))))
noncomputable def F_law_draw : FF := defF 2 3 b_law_draw
--@ law_things
-- _law_things: 0 _law_purse_here, 1 _law_many, 2 _law_pool, 3 _law_found, 4 _law_turn
noncomputable def b_law_things : FS := sSeq (sSetV 2 (vLst (aCons (xC (.str "a")) (aCons (xC (.str "a0")) (aCons (xC (.str "aa")) (aCons (xC (.str "ab")) (aCons (xC (.str "b")) (aCons (xC (.str "b9")) (aCons (xC (.str "ba")) (aCons (xC (.str "c")) (aCons (xC (.str "d")) (aCons (xC (.str "k1")) (aCons (xC (.str "q")) (aCons (xC (.str "zz")) (aCons (xC (.str "zzzzzzzz")) (aNil)))))))))))))))) (sSeq (sSetV 3 (vLst (aNil))) (sSeq (sFor (wRng1 (aCons (xVar 1) (aNil))) (gN 4) [4] (sDrop (onL 3 (aCons (onL 2 (aCons (xCall F_law_draw (aCons (xVar 0) (aCons (xOwn 2 (fun l => some (.int l.length)) lenG) (aNil)))) (aNil)) (popG 2)) (aNil)) (apG 3)))) (sRet (xA (aCons (xOwn 3 (fun l => (srtL l).map .lst) (purA srtG)) (aNil)) (purA tupG)))))
noncomputable def F_law_things : FF := defF 2 5 b_law_things
--@ law_ranked
-- _law_ranked: 0 _law_stock, 1 _law_ranks, 2 _law_found, 3 _law_rank, 4 _law_group, 5 _law_k
noncomputable def b_law_ranked : FS := sSeq (sSetV 2 (vLst (aNil))) (sSeq (sFor (wAny (xA (aCons (xVar 1) (aNil)) (purA srtDG))) (gN 3) [3, 4, 5] (sSeq (sSet 4 (xA (aCons (xA (aCons (xLcP (wRng1 (aCons (xA (aCons (xVar 0) (aNil)) lenG) (aNil))) (gN 5) [5] (tOf (x2 (x2 (xVar 1) (xVar 5) ixG) (xVar 3) (pur2 opEq))) (x2 (xVar 0) (xVar 5) ixG)) (aNil)) (purA srtDG)) (aNil)) (purA tupG))) (sIf (tOf (xInN true (xVar 4) 2)) (sDrop (onL 2 (aCons (xVar 4) (aNil)) (apG 2))) (sNx)))) (sRet (xOwn 2 (fun l => some (.tup l)) (purA tupG))))
noncomputable def F_law_ranked : FF := defF 2 6 b_law_ranked
--@ law_groups
-- _law_groups: 0 _law_purse_here, 1 _law_stock, 2 _law_most, 3 _law_thing
noncomputable def b_law_groups : FS := sSeq (sSet 2 (x2 (xC (.int 1)) (xCall F_law_draw (aCons (xVar 0) (aCons (xA (aCons (xVar 1) (aNil)) lenG) (aNil)))) (pur2 addD))) (sRet (xCall F_law_ranked (aCons (xVar 1) (aCons (xLcP (wAny (xVar 1)) (gN 3) [3] (tAll) (xCall F_law_draw (aCons (xVar 0) (aCons (xVar 2) (aNil))))) (aNil)))))
noncomputable def F_law_groups : FF := defF 2 4 b_law_groups
--@ law_order
-- _law_order: 0 _law_purse_here, 1 _law_stock, 2 _law_turn, 3 _law_left, 4 _law_found
noncomputable def b_law_order : FS := sSeq (sPar 3 4 (vList (aCons (xVar 1) (aNil))) (vLst (aNil))) (sSeq (sFor (wRng1 (aCons (xA (aCons (xVar 1) (aNil)) lenG) (aNil))) (gN 2) [2] (sDrop (onL 4 (aCons (onL 3 (aCons (xCall F_law_draw (aCons (xVar 0) (aCons (xOwn 3 (fun l => some (.int l.length)) lenG) (aNil)))) (aNil)) (popG 3)) (aNil)) (apG 4)))) (sRet (xOwn 4 (fun l => some (.tup l)) (purA tupG))))
noncomputable def F_law_order : FF := defF 2 5 b_law_order
--@ law_purse
-- _law_purse: 0 _law_script, 1 _law_spot, 2 _law_cell, 3 _law_seed, 4 _law_one
noncomputable def b_law_purse : FS := sSeq (sSet 2 (xIf (tOf (x2 (xVar 1) (xA (aCons (xVar 0) (aNil)) lenG) (pur2 opLt))) (x2 (xVar 0) (xVar 1) ixG) (x2 (xC (.int 7919)) (x2 (xVar 1) (xC (.int 5)) (pur2 addD)) (pur2 mulD)))) (sSeq (sSet 3 (x2 (xC (.int 211)) (xVar 1) (pur2 addD))) (sSeq (sFor (wAny (x2 (xSl (xVar 0) oNone (oSome (xC (.int 5)))) (xA (aCons (xVar 2) (aNil)) (purA mkLst)) (pur2 addD))) (gN 4) [4] (sSet 3 (x2 (xA (aCons (x2 (x2 (x2 (xVar 3) (xC (.int 48271)) (pur2 mulD)) (x2 (xA (aCons (xVar 4) (aNil)) (purA intG)) (xC (.int 2147483647)) (pur2 modD)) (pur2 addD)) (xC (.int 101)) (pur2 addD)) (aNil)) (purA intG)) (xC (.int 2147483647)) (pur2 modD)))) (sRetO (aCons (xIf (tOf (x2 (xA (aCons (xVar 2) (aNil)) (purA absG)) (x2 (xC (.int 10)) (xC (.int 18)) (pur2 powD)) (pur2 opGe))) (xA (aCons (xVar 2) (aNil)) (purA absG)) (xC (.int 0))) (aCons (xVar 3) (aNil))))))
noncomputable def F_law_purse : FF := defF 2 5 b_law_purse
--@ check_thing
-- check_thing: 0 thing, 1 things
noncomputable def b_check_thing : FS := sIf (tNt (tOf (xCall F_is_thing (aCons (xVar 0) (aCons (xVar 1) (aNil)))))) (sNo) (sNx)
noncomputable def F_check_thing : FF := defF 2 2 b_check_thing
--@ Deed_sets_apart
-- Deed.sets_apart: 0 self, 1 one, 2 other
noncomputable def b_Deed_sets_apart : FS := sSeq (sDrop (xCall F_check_thing (aCons (xVar 1) (aCons (xProp "Deed" F_Deed_things (xVar 0)) (aNil))))) (sSeq (sDrop (xCall F_check_thing (aCons (xVar 2) (aCons (xProp "Deed" F_Deed_things (xVar 0)) (aNil))))) (sRet (x2 (x2 (x1 (xVar 0) (pur1 (fldG "Deed" "ranks"))) (xVar 1) ixG) (x2 (x1 (xVar 0) (pur1 (fldG "Deed" "ranks"))) (xVar 2) ixG) (pur2 opNe))))
noncomputable def F_Deed_sets_apart : FF := defF 3 3 b_Deed_sets_apart
--@ check_deed
-- check_deed: 0 deed
noncomputable def b_check_deed : FS := sIf (tNt (tOf (xA (aCons (xVar 0) (aCons (xC (.glo "Deed")) (aNil))) (purA (isCG "Deed" (clsB "Deed")))))) (sNo) (sNx)
noncomputable def F_check_deed : FF := defF 1 1 b_check_deed
--@ check_mate
-- check_mate: 0 one, 1 other
noncomputable def b_check_mate : FS := sSeq (sDrop (xCall F_check_deed (aCons (xVar 1) (aNil)))) (sIf (tOf (x2 (xProp "Deed" F_Deed_things (xVar 1)) (xProp "Deed" F_Deed_things (xVar 0)) (pur2 opNe))) (sNo) (sNx))
noncomputable def F_check_mate : FF := defF 2 2 b_check_mate
--@ Deed_finer
-- Deed.finer: 0 self, 1 other, 2 group, 3 thing
noncomputable def b_Deed_finer : FS := sSeq (sDrop (xCall F_check_mate (aCons (xVar 0) (aCons (xVar 1) (aNil))))) (sRet (xA (aCons (xLcP (wAny (x1 (xVar 0) (pur1 (fldG "Deed" "parted")))) (gN 2) [2] (tAll) (x2 (xA (aCons (xDcP (wAny (xVar 2)) (gN 3) [3] (tAll) (x2 (x1 (xVar 1) (pur1 (fldG "Deed" "ranks"))) (xVar 3) ixG) (xC (.bl true))) (aNil)) lenG) (xC (.int 1)) (pur2 opEq))) (aNil)) (purA allG)))
noncomputable def F_Deed_finer : FF := defF 2 4 b_Deed_finer
--@ law_done
-- _law_done: 0 _law_groups_here, 1 _law_line, 2 _law_found, 3 _law_group, 4 _law_thing
noncomputable def b_law_done : FS := sSeq (sSet 2 (xA (aNil) (purA mkLst))) (sSeq (sFor (wAny (xVar 0)) (gN 3) [3, 4] (sSet 2 (x2 (xVar 2) (xLcP (wAny (xVar 1)) (gN 4) [4] (tOf (x2 (xVar 4) (xVar 3) (pur2 opIn))) (xVar 4)) (pur2 addD)))) (sRet (xA (aCons (xVar 2) (aNil)) (purA tupG))))
noncomputable def F_law_done : FF := defF 2 5 b_law_done
--@ law_finer
-- _law_finer: 0 _law_rows, 1 _law_mates, 2 _law_group, 3 _law_mate, 4 _law_name
noncomputable def b_law_finer : FS := sSeq (sFor (wAny (xVar 0)) (gN 2) [2] (sIf (tOf (x2 (xLcP (wAny (xVar 1)) (gN 3) [3] (tOf (x2 (xLcP (wAny (xVar 2)) (gN 4) [4] (tOf (x2 (xVar 4) (xVar 3) (pur2 opNi))) (xVar 4)) (xA (aNil) (purA mkLst)) (pur2 opEq))) (xVar 3)) (xA (aNil) (purA mkLst)) (pur2 opEq))) (sRet (xC (.bl false))) (sNx))) (sRet (xC (.bl true)))
noncomputable def F_law_finer : FF := defF 2 5 b_law_finer
--@ then
-- then: 0 one, 1 other, 2 found, 3 late, 4 early, 5 common, 6 thing
noncomputable def b_then : FS := sSeq (sSetV 2 (vLst (aNil))) (sSeq (sFor (wAny (xVar 1)) (gN 3) [3, 4] (sFor (wAny (xVar 0)) (gN 4) [4, 5, 6] (sSeq (sSet 5 (xA (aCons (xLcP (wAny (xVar 3)) (gN 6) [6] (tOf (x2 (xVar 6) (xVar 4) (pur2 opIn))) (xVar 6)) (aNil)) (purA tupG))) (sIf (tOf (x2 (xVar 5) (xA (aNil) (purA mkTup)) (pur2 opNe))) (sDrop (onL 2 (aCons (xVar 5) (aNil)) (apG 2))) (sNx))))) (sRet (xOwn 2 (fun l => some (.tup l)) (purA tupG))))
noncomputable def F_then : FF := defF 2 7 b_then
--@ deed_of
-- deed_of: 0 deeds, 1 groups, 2 deed, 3 k
noncomputable def b_deed_of : FS := sSeq (sIf (tOr (tNt (tOf (xA (aCons (xVar 0) (aCons (xC (.ty "tuple")) (aNil))) (purA isiG)))) (tOf (x2 (xA (aCons (xVar 0) (aNil)) lenG) (xC (.int 0)) (pur2 opEq)))) (sNo) (sNx)) (sSeq (sFor (wEnum (aCons (xVar 0) (aNil))) (gT 2 (gsCons (gN 3) (gsCons (gN 2) (gsNil)))) [3] (sIf (tOr (tNt (tOf (xA (aCons (xVar 2) (aCons (xC (.glo "Deed")) (aNil))) (purA (isCG "Deed" (clsB "Deed")))))) (tOf (x2 (xProp "Deed" F_Deed_things (xVar 2)) (xProp "Deed" F_Deed_things (x2 (xVar 0) (xC (.int 0)) ixG)) (pur2 opNe)))) (sNo) (sNx))) (sSeq (sSet 1 (xProp "Deed" F_Deed_groups (x2 (xVar 0) (xC (.int 0)) ixG))) (sSeq (sFor (wAny (xSl (xVar 0) (oSome (xC (.int 1))) oNone)) (gN 2) [] (sSet 1 (xCall F_then (aCons (xVar 1) (aCons (xProp "Deed" F_Deed_groups (xVar 2)) (aNil)))))) (sRet (xMake "Deed" I_Deed_init (aCons (xVar 1) (aNil)))))))
noncomputable def F_deed_of : FF := defF 1 4 b_deed_of
--@ Deed_add
-- Deed.__add__: 0 self, 1 other
noncomputable def b_Deed_add : FS := sSeq (sDrop (xCall F_check_mate (aCons (xVar 0) (aCons (xVar 1) (aNil))))) (sRet (xMake "Deed" I_Deed_init (aCons (xCall F_then (aCons (x1 (xVar 0) (pur1 (fldG "Deed" "parted"))) (aCons (x1 (xVar 1) (pur1 (fldG "Deed" "parted"))) (aNil)))) (aNil))))
noncomputable def F_Deed_add : FF := defF 2 2 b_Deed_add
--@ law_then
-- _law_then: 0 _law_early, 1 _law_late, 2 _law_found, 3 _law_group, 4 _law_part, 5 _law_common, 6 _law_thing
noncomputable def b_law_then : FS := sSeq (sSetV 2 (vLst (aNil))) (sSeq (sFor (wAny (xVar 1)) (gN 3) [3, 4] (sFor (wAny (xVar 0)) (gN 4) [4, 5, 6] (sSeq (sSet 5 (xA (aCons (xLcP (wAny (xVar 3)) (gN 6) [6] (tOf (x2 (xVar 6) (xVar 4) (pur2 opIn))) (xVar 6)) (aNil)) (purA tupG))) (sIf (tOf (x2 (xVar 5) (xA (aNil) (purA mkTup)) (pur2 opNe))) (sDrop (onL 2 (aCons (xVar 5) (aNil)) (apG 2))) (sNx))))) (sRet (xOwn 2 (fun l => some (.tup l)) (purA tupG))))
noncomputable def F_law_then : FF := defF 2 7 b_law_then
--@ law_orders0
-- _law_orders: 0 _law_things_here, 1 _law_found, 2 _law_thing, 3 _law_rest, 4 _law_other, 5 _law_row
noncomputable def b_law_orders0 : FS := sSeq (sIf (tOf (x2 (xA (aCons (xVar 0) (aNil)) lenG) (xC (.int 0)) (pur2 opEq))) (sRet (xA (aCons (xA (aNil) (purA mkTup)) (aNil)) (purA mkLst))) (sNx)) (sSeq (sSet 1 (xA (aNil) (purA mkLst))) (sSeq (sFor (wAny (xVar 0)) (gN 2) [2, 3, 4, 5] (sSeq (sSet 3 (xA (aCons (xLcP (wAny (xVar 0)) (gN 4) [4] (tOf (x2 (xVar 4) (xVar 2) (pur2 opNe))) (xVar 4)) (aNil)) (purA tupG))) (sSet 1 (x2 (xVar 1) (xLcP (wAny (xNo)) (gN 5) [5] (tAll) (x2 (xA (aCons (xVar 2) (aNil)) (purA mkTup)) (xVar 5) (pur2 addD))) (pur2 addD))))) (sRet (xVar 1))))
noncomputable def F_law_orders0 : FF := defF 1 6 b_law_orders0
--@ law_orders1
-- _law_orders: 0 _law_things_here, 1 _law_found, 2 _law_thing, 3 _law_rest, 4 _law_other, 5 _law_row
noncomputable def b_law_orders1 : FS := sSeq (sIf (tOf (x2 (xA (aCons (xVar 0) (aNil)) lenG) (xC (.int 0)) (pur2 opEq))) (sRet (xA (aCons (xA (aNil) (purA mkTup)) (aNil)) (purA mkLst))) (sNx)) (sSeq (sSet 1 (xA (aNil) (purA mkLst))) (sSeq (sFor (wAny (xVar 0)) (gN 2) [2, 3, 4, 5] (sSeq (sSet 3 (xA (aCons (xLcP (wAny (xVar 0)) (gN 4) [4] (tOf (x2 (xVar 4) (xVar 2) (pur2 opNe))) (xVar 4)) (aNil)) (purA tupG))) (sSet 1 (x2 (xVar 1) (xLcP (wAny (xCall F_law_orders0 (aCons (xVar 3) (aNil)))) (gN 5) [5] (tAll) (x2 (xA (aCons (xVar 2) (aNil)) (purA mkTup)) (xVar 5) (pur2 addD))) (pur2 addD))))) (sRet (xVar 1))))
noncomputable def F_law_orders1 : FF := defF 1 6 b_law_orders1
--@ law_orders2
-- _law_orders: 0 _law_things_here, 1 _law_found, 2 _law_thing, 3 _law_rest, 4 _law_other, 5 _law_row
noncomputable def b_law_orders2 : FS := sSeq (sIf (tOf (x2 (xA (aCons (xVar 0) (aNil)) lenG) (xC (.int 0)) (pur2 opEq))) (sRet (xA (aCons (xA (aNil) (purA mkTup)) (aNil)) (purA mkLst))) (sNx)) (sSeq (sSet 1 (xA (aNil) (purA mkLst))) (sSeq (sFor (wAny (xVar 0)) (gN 2) [2, 3, 4, 5] (sSeq (sSet 3 (xA (aCons (xLcP (wAny (xVar 0)) (gN 4) [4] (tOf (x2 (xVar 4) (xVar 2) (pur2 opNe))) (xVar 4)) (aNil)) (purA tupG))) (sSet 1 (x2 (xVar 1) (xLcP (wAny (xCall F_law_orders1 (aCons (xVar 3) (aNil)))) (gN 5) [5] (tAll) (x2 (xA (aCons (xVar 2) (aNil)) (purA mkTup)) (xVar 5) (pur2 addD))) (pur2 addD))))) (sRet (xVar 1))))
noncomputable def F_law_orders2 : FF := defF 1 6 b_law_orders2
--@ law_orders3
-- _law_orders: 0 _law_things_here, 1 _law_found, 2 _law_thing, 3 _law_rest, 4 _law_other, 5 _law_row
noncomputable def b_law_orders3 : FS := sSeq (sIf (tOf (x2 (xA (aCons (xVar 0) (aNil)) lenG) (xC (.int 0)) (pur2 opEq))) (sRet (xA (aCons (xA (aNil) (purA mkTup)) (aNil)) (purA mkLst))) (sNx)) (sSeq (sSet 1 (xA (aNil) (purA mkLst))) (sSeq (sFor (wAny (xVar 0)) (gN 2) [2, 3, 4, 5] (sSeq (sSet 3 (xA (aCons (xLcP (wAny (xVar 0)) (gN 4) [4] (tOf (x2 (xVar 4) (xVar 2) (pur2 opNe))) (xVar 4)) (aNil)) (purA tupG))) (sSet 1 (x2 (xVar 1) (xLcP (wAny (xCall F_law_orders2 (aCons (xVar 3) (aNil)))) (gN 5) [5] (tAll) (x2 (xA (aCons (xVar 2) (aNil)) (purA mkTup)) (xVar 5) (pur2 addD))) (pur2 addD))))) (sRet (xVar 1))))
noncomputable def F_law_orders3 : FF := defF 1 6 b_law_orders3
--@ law_orders4
-- _law_orders: 0 _law_things_here, 1 _law_found, 2 _law_thing, 3 _law_rest, 4 _law_other, 5 _law_row
noncomputable def b_law_orders4 : FS := sSeq (sIf (tOf (x2 (xA (aCons (xVar 0) (aNil)) lenG) (xC (.int 0)) (pur2 opEq))) (sRet (xA (aCons (xA (aNil) (purA mkTup)) (aNil)) (purA mkLst))) (sNx)) (sSeq (sSet 1 (xA (aNil) (purA mkLst))) (sSeq (sFor (wAny (xVar 0)) (gN 2) [2, 3, 4, 5] (sSeq (sSet 3 (xA (aCons (xLcP (wAny (xVar 0)) (gN 4) [4] (tOf (x2 (xVar 4) (xVar 2) (pur2 opNe))) (xVar 4)) (aNil)) (purA tupG))) (sSet 1 (x2 (xVar 1) (xLcP (wAny (xCall F_law_orders3 (aCons (xVar 3) (aNil)))) (gN 5) [5] (tAll) (x2 (xA (aCons (xVar 2) (aNil)) (purA mkTup)) (xVar 5) (pur2 addD))) (pur2 addD))))) (sRet (xVar 1))))
noncomputable def F_law_orders4 : FF := defF 1 6 b_law_orders4
--@ law_orders
-- _law_orders: 0 _law_things_here, 1 _law_found, 2 _law_thing, 3 _law_rest, 4 _law_other, 5 _law_row
noncomputable def b_law_orders : FS := sSeq (sIf (tOf (x2 (xA (aCons (xVar 0) (aNil)) lenG) (xC (.int 0)) (pur2 opEq))) (sRet (xA (aCons (xA (aNil) (purA mkTup)) (aNil)) (purA mkLst))) (sNx)) (sSeq (sSet 1 (xA (aNil) (purA mkLst))) (sSeq (sFor (wAny (xVar 0)) (gN 2) [2, 3, 4, 5] (sSeq (sSet 3 (xA (aCons (xLcP (wAny (xVar 0)) (gN 4) [4] (tOf (x2 (xVar 4) (xVar 2) (pur2 opNe))) (xVar 4)) (aNil)) (purA tupG))) (sSet 1 (x2 (xVar 1) (xLcP (wAny (xCall F_law_orders4 (aCons (xVar 3) (aNil)))) (gN 5) [5] (tAll) (x2 (xA (aCons (xVar 2) (aNil)) (purA mkTup)) (xVar 5) (pur2 addD))) (pur2 addD))))) (sRet (xVar 1))))
noncomputable def F_law_orders : FF := defF 1 6 b_law_orders
--@ law_some
-- _law_some: 0 _law_purse_here, 1 _law_stock, 2 _law_turn
noncomputable def b_law_some : FS := sSeq (sIf (tOf (x2 (xA (aCons (xVar 1) (aNil)) lenG) (xC (.int 5)) (pur2 opLt))) (sRet (xCall F_law_orders (aCons (xVar 1) (aNil)))) (sNx)) (sRet (xLcP (wRng1 (aCons (xC (.int 8)) (aNil))) (gN 2) [2] (tAll) (xCall F_law_order (aCons (xVar 0) (aCons (xVar 1) (aNil))))))
noncomputable def F_law_some : FF := defF 2 3 b_law_some
--@ deed_with
-- deed_with: 0 text, 1 groups, 2 piece
noncomputable def b_deed_with : FS := sSeq (sIf (tNt (tOf (xA (aCons (xVar 0) (aCons (xC (.ty "str")) (aNil))) (purA isiG)))) (sRet (xC .non)) (sNx)) (sSeq (sSet 1 (xA (aCons (xLcP (wAny (sM1 splitG (xVar 0) (xC (.str " | ")))) (gN 2) [2] (tAll) (xA (aCons (sM1 splitG (xVar 2) (xC (.str " "))) (aNil)) (purA tupG))) (aNil)) (purA tupG))) (sRet (xIf (tOf (x2 (xCall F_wrong_group (aCons (xVar 1) (aNil))) (x1 (xC (.int 1)) (pur1 negD)) (pur2 opEq))) (xMake "Deed" I_Deed_init (aCons (xVar 1) (aNil))) (xC .non))))
noncomputable def F_deed_with : FF := defF 1 3 b_deed_with
--@ Deed_read
-- Deed.read: 0 cls, 1 text, 2 deed
noncomputable def b_Deed_read : FS := sSeq (sSet 2 (xCall F_deed_with (aCons (xVar 1) (aNil)))) (sSeq (sIf (tOf (x2 (xVar 2) (xC .non) (pur2 opIs))) (sNo) (sNx)) (sRet (xVar 2)))
noncomputable def F_Deed_read : FF := defF 2 3 b_Deed_read
--@ Deed_len
-- Deed.__len__: 0 self
noncomputable def b_Deed_len : FS := sRet (xA (aCons (x1 (xVar 0) (pur1 (fldG "Deed" "parted"))) (aNil)) lenG)
noncomputable def F_Deed_len : FF := defF 1 1 b_Deed_len
--@ Deed_bool
-- Deed.__bool__: 0 self
noncomputable def b_Deed_bool : FS := sRet (xC (.bl true))
noncomputable def F_Deed_bool : FF := defF 1 1 b_Deed_bool
--@ Deed_str
-- Deed.__str__: 0 self, 1 group
noncomputable def b_Deed_str : FS := sRet (sM1 joinG (xC (.str " | ")) (xLcP (wAny (x1 (xVar 0) (pur1 (fldG "Deed" "parted")))) (gN 1) [1] (tAll) (sM1 joinG (xC (.str " ")) (xVar 1))))
noncomputable def F_Deed_str : FF := defF 1 2 b_Deed_str
--@ Deed_repr
-- Deed.__repr__: 0 self
noncomputable def b_Deed_repr : FS := sRet (fJs [xC (.str "Deed "), x1 (xVar 0) (ownF1 "Deed" F_Deed_str)] Str.empty)
noncomputable def F_Deed_repr : FF := defF 1 1 b_Deed_repr
--@ Deed_getitem
-- Deed.__getitem__: 0 self, 1 thing
noncomputable def b_Deed_getitem : FS := sSeq (sDrop (xCall F_check_thing (aCons (xVar 1) (aCons (xProp "Deed" F_Deed_things (xVar 0)) (aNil))))) (sRet (x2 (x1 (xVar 0) (pur1 (fldG "Deed" "ranks"))) (xVar 1) ixG))
noncomputable def F_Deed_getitem : FF := defF 2 2 b_Deed_getitem
--@ Deed_contains
-- Deed.__contains__: 0 self, 1 thing
noncomputable def b_Deed_contains : FS := sRet (xCall F_is_thing (aCons (xVar 1) (aCons (xProp "Deed" F_Deed_things (xVar 0)) (aNil))))
noncomputable def F_Deed_contains : FF := defF 2 2 b_Deed_contains
--@ law_text
-- _law_text: 0 _law_piles, 1 _law_group
noncomputable def b_law_text : FS := sRet (sM1 joinG (xC (.str " | ")) (xLcP (wAny (xVar 0)) (gN 1) [1] (tAll) (sM1 joinG (xC (.str " ")) (xVar 1))))
noncomputable def F_law_text : FF := defF 1 2 b_law_text
--@ law_made
-- _law_made: 0 _law_purse_here, 1 _law_piles, 2 _law_way, 3 _law_line
noncomputable def b_law_made : FS := sSeq (sPar 2 3 (vVal (xCall F_law_draw (aCons (xVar 0) (aCons (xC (.int 4)) (aNil))))) (vVal (xCall F_law_text (aCons (xVar 1) (aNil))))) (sSeq (sIf (tOf (x2 (xVar 2) (xC (.int 2)) (pur2 opLt))) (sRet (xIf (tOf (x2 (xVar 2) (xC (.int 0)) (pur2 opEq))) (xMake "Deed" I_Deed_init (aCons (xVar 1) (aNil))) (xMakeK "Deed" 1 [0] I_Deed_init (aCons (xVar 1) (aNil))))) (sNx)) (sRet (xIf (tOf (x2 (xVar 2) (xC (.int 2)) (pur2 opEq))) (xCMeth "Deed" F_Deed_read (xC (.glo "Deed")) (aCons (xVar 3) (aNil))) (xCMethK "Deed" 1 [0, 1] F_Deed_read (xC (.glo "Deed")) (aCons (xVar 3) (aNil))))))
noncomputable def F_law_made : FF := defF 2 4 b_law_made
--@ law_shown
-- _law_shown: 0 _law_deed, 1 _law_piles, 2 _law_group, 3 _law_due, 4 _law_told, 5 _law_line, 6 _law_whole, 7 _law_k, 8 _law_thing
noncomputable def b_law_shown : FS := sSeq (sPar 5 6 (vVal (xCall F_law_text (aCons (xVar 1) (aNil)))) (vVal (xA (aNil) (purA mkLst)))) (sSeq (sFor (wAny (xVar 1)) (gN 2) [] (sSet 6 (x2 (xVar 6) (xA (aCons (xVar 2) (aNil)) (purA lstG)) (pur2 addD)))) (sSeq (sSet 3 (xA (aCons (xVar 1) (aCons (xA (aCons (xA (aCons (xVar 6) (aNil)) (purA srtDG)) (aNil)) (purA tupG)) (aCons (xA (aCons (xVar 1) (aNil)) lenG) (aCons (xC (.bl true)) (aCons (xVar 5) (aCons (x2 (xC (.str "Deed ")) (xVar 5) (pur2 addD)) (aNil))))))) (purA mkLst))) (sSeq (sSet 4 (xA (aCons (xProp "Deed" F_Deed_groups (xVar 0)) (aCons (xProp "Deed" F_Deed_things (xVar 0)) (aCons (xA (aCons (xVar 0) (aNil)) (ownL1 "Deed" F_Deed_len)) (aCons (xA (aCons (xVar 0) (aNil)) (ownA1 blB "Deed" F_Deed_bool)) (aCons (xA (aCons (xVar 0) (aNil)) (ownA1 stB "Deed" F_Deed_str)) (aCons (xA (aCons (xVar 0) (aNil)) (ownA1 stB "Deed" F_Deed_repr)) (aNil))))))) (purA mkLst))) (sSeq (sIf (tOf (x2 (xA (aCons (xVar 4) (aNil)) (purA reprG)) (xA (aCons (xVar 3) (aNil)) (purA reprG)) (pur2 opNe))) (sRet (xC (.bl false))) (sNx)) (sSeq (sSet 3 (xA (aNil) (purA mkLst))) (sSeq (sFor (wEnum (aCons (xVar 1) (aNil))) (gT 2 (gsCons (gN 7) (gsCons (gN 2) (gsNil)))) [7] (sSet 3 (x2 (xVar 3) (xLcP (wAny (xVar 2)) (gN 8) [8] (tAll) (xVar 7)) (pur2 addD)))) (sRet (x2 (xLcP (wAny (xVar 6)) (gN 8) [8] (tAll) (x2 (xVar 0) (xVar 8) (ownI "Deed" F_Deed_getitem))) (xVar 3) (pur2 opEq)))))))))
noncomputable def F_law_shown : FF := defF 2 9 b_law_shown
--@ is_integer
-- is_integer: 0 value
noncomputable def b_is_integer : FS := sRet (vAn (xA (aCons (xVar 0) (aCons (xC (.ty "int")) (aNil))) (purA isiG)) (x1 (xA (aCons (xVar 0) (aCons (xC (.ty "bool")) (aNil))) (purA isiG)) (pur1 vNt)))
noncomputable def F_is_integer : FF := defF 1 1 b_is_integer
--@ is_natural
-- is_natural: 0 value
noncomputable def b_is_natural : FS := sRet (vAn (xCall F_is_integer (aCons (xVar 0) (aNil))) (x2 (xVar 0) (xC (.int 0)) (pur2 opGe)))
noncomputable def F_is_natural : FF := defF 1 1 b_is_natural
--@ is_term
-- is_term: 0 value
noncomputable def b_is_term : FS := sSeq (sIf (tOr (tNt (tOf (xA (aCons (xVar 0) (aCons (xC (.ty "tuple")) (aNil))) (purA isiG)))) (tOr (tOf (x2 (xA (aCons (xVar 0) (aNil)) lenG) (xC (.int 2)) (pur2 opNe))) (tOr (tNt (tOf (xCall F_is_integer (aCons (x2 (xVar 0) (xC (.int 0)) ixG) (aNil))))) (tOf (x2 (x2 (xVar 0) (xC (.int 0)) ixG) (xC (.int 0)) (pur2 opEq)))))) (sRet (xC (.bl false))) (sNx)) (sRet (vAn (xCall F_is_natural (aCons (x2 (xVar 0) (xC (.int 1)) ixG) (aNil))) (x2 (x2 (xVar 0) (xC (.int 1)) ixG) (xC (.int 60)) (pur2 opLe))))
noncomputable def F_is_term : FF := defF 1 1 b_is_term
--@ wrong_term
-- wrong_term: 0 terms, 1 k, 2 term
noncomputable def b_wrong_term : FS := sSeq (sIf (tNt (tOf (xA (aCons (xVar 0) (aCons (xC (.ty "tuple")) (aNil))) (purA isiG)))) (sRet (xC .non)) (sNx)) (sSeq (sFor (wEnum (aCons (xVar 0) (aNil))) (gT 2 (gsCons (gN 1) (gsCons (gN 2) (gsNil)))) [1, 2] (sIf (tOr (tNt (tOf (xCall F_is_term (aCons (xVar 2) (aNil))))) (tAn (tOf (x2 (xVar 1) (xC (.int 0)) (pur2 opGt))) (tOf (x2 (x2 (xVar 2) (xC (.int 1)) ixG) (x2 (x2 (xVar 0) (x2 (xVar 1) (xC (.int 1)) (pur2 subD)) ixG) (xC (.int 1)) ixG) (pur2 opGe))))) (sRet (xVar 1)) (sNx))) (sRet (x1 (xC (.int 1)) (pur1 negD))))
noncomputable def F_wrong_term : FF := defF 1 3 b_wrong_term
--@ greatest_divisor
-- greatest_divisor: 0 one, 1 other
noncomputable def b_greatest_divisor : FS := sSeq (sWh (tOf (x2 (xVar 1) (xC (.int 0)) (pur2 opNe))) (sPar 0 1 (vVal (xVar 1)) (vVal (x2 (xVar 0) (xVar 1) (pur2 modD))))) (sRet (xA (aCons (xVar 0) (aNil)) (purA absG)))
noncomputable def F_greatest_divisor : FF := defF 2 2 b_greatest_divisor
--@ shared_divisor
-- shared_divisor: 0 terms, 1 parts, 2 divisor, 3 coefficient, 4 base
noncomputable def b_shared_divisor : FS := sSeq (sSet 2 (xVar 1)) (sSeq (sFor (wAny (xVar 0)) (gT 2 (gsCons (gN 3) (gsCons (gN 4) (gsNil)))) [3, 4] (sSet 2 (xCall F_greatest_divisor (aCons (xVar 2) (aCons (xVar 3) (aNil)))))) (sRet (xVar 2)))
noncomputable def F_shared_divisor : FF := defF 2 5 b_shared_divisor
--@ Form_init
-- Form.__init__: 0 self, 1 terms, 2 parts, 3 wrong, 4 divisor, 5 coefficient, 6 base
noncomputable def b_Form_init : FS := sSeq (sSet 3 (xCall F_wrong_term (aCons (xVar 1) (aNil)))) (sSeq (sIf (tOf (x2 (xVar 3) (x1 (xC (.int 1)) (pur1 negD)) (pur2 opNe))) (sNo) (sNx)) (sSeq (sIf (tOr (tNt (tOf (xCall F_is_natural (aCons (xVar 2) (aNil))))) (tOf (x2 (xVar 2) (xC (.int 0)) (pur2 opEq)))) (sNo) (sNx)) (sSeq (sSet 4 (xCall F_shared_divisor (aCons (xVar 1) (aCons (xVar 2) (aNil))))) (sSeq (sFld "Form" 0 "sums" (xA (aCons (xLcP (wAny (xVar 1)) (gT 2 (gsCons (gN 5) (gsCons (gN 6) (gsNil)))) [5, 6] (tAll) (xA (aCons (x2 (xVar 5) (xVar 4) (pur2 fdivD)) (aCons (xVar 6) (aNil))) (purA mkTup))) (aNil)) (purA tupG))) (sFld "Form" 0 "under" (x2 (xVar 2) (xVar 4) (pur2 fdivD)))))))
noncomputable def I_Form_init : FI := initF "Form" 3 7 b_Form_init
--@ Form_terms
-- Form.terms: 0 self
noncomputable def b_Form_terms : FS := sRet (x1 (xVar 0) (pur1 (fldG "Form" "sums")))
noncomputable def F_Form_terms : FF := defF 1 1 b_Form_terms
--@ sign_of
-- sign_of: 0 number
noncomputable def b_sign_of : FS := sRet (xIf (tOf (x2 (xVar 0) (xC (.int 0)) (pur2 opEq))) (xC (.int 0)) (xIf (tOf (x2 (xVar 0) (xC (.int 0)) (pur2 opGt))) (xC (.int 1)) (x1 (xC (.int 1)) (pur1 negD))))
noncomputable def F_sign_of : FF := defF 1 1 b_sign_of
--@ is_ruled
-- is_ruled: 0 terms, 1 sizes, 2 n, 3 size
noncomputable def b_is_ruled : FS := sSeq (sIf (tOf (x2 (xVar 0) (xA (aNil) (purA mkTup)) (pur2 opEq))) (sRet (xC (.bl true))) (sNx)) (sSeq (sIf (tOf (x2 (x2 (x2 (xVar 0) (xC (.int 0)) ixG) (xC (.int 1)) ixG) (xC (.int 0)) (pur2 opEq))) (sRet (x2 (xVar 2) (xC (.int 0)) (pur2 opGt))) (sNx)) (sRet (x2 (xA (aCons (x2 (xVar 1) (xC (.int 0)) ixG) (aNil)) (purA absG)) (xA (aCons (xLcP (wAny (xSl (xVar 1) (oSome (xC (.int 1))) oNone)) (gN 3) [3] (tAll) (xA (aCons (xVar 3) (aNil)) (purA absG))) (aNil)) (purA sumG)) (pur2 opGt))))
noncomputable def F_is_ruled : FF := defF 3 4 b_is_ruled
--@ form_of
-- form_of: 0 fractions, 1 parts, 2 terms, 3 base, 4 numerator, 5 denominator, 6 coefficient, 7 one, 8 over, 9 under
noncomputable def b_form_of : FS := sSeq (sSet 1 (xC (.int 1))) (sSeq (sFor (wAny (xVar 0)) (gT 3 (gsCons (gN 3) (gsCons (gN 4) (gsCons (gN 5) (gsNil))))) [4, 5] (sSet 1 (x2 (x2 (xVar 1) (xCall F_greatest_divisor (aCons (xVar 1) (aCons (xVar 5) (aNil)))) (pur2 fdivD)) (xA (aCons (xVar 5) (aNil)) (purA absG)) (pur2 mulD)))) (sSeq (sSetV 2 (vLst (aNil))) (sSeq (sFor (wRng3 (aCons (xC (.int 60)) (aCons (x1 (xC (.int 1)) (pur1 negD)) (aCons (x1 (xC (.int 1)) (pur1 negD)) (aNil))))) (gN 3) [6, 7, 8, 9] (sSeq (sSet 6 (xA (aCons (xLcP (wAny (xVar 0)) (gT 3 (gsCons (gN 7) (gsCons (gN 8) (gsCons (gN 9) (gsNil))))) [7, 8, 9] (tOf (x2 (xVar 7) (xVar 3) (pur2 opEq))) (x2 (xVar 8) (x2 (xVar 1) (xVar 9) (pur2 fdivD)) (pur2 mulD))) (aNil)) (purA sumG))) (sIf (tOf (x2 (xVar 6) (xC (.int 0)) (pur2 opNe))) (sDrop (onL 2 (aCons (xA (aCons (xVar 6) (aCons (xVar 3) (aNil))) (purA mkTup)) (aNil)) (apG 2))) (sNx)))) (sRet (xMake "Form" I_Form_init (aCons (xOwn 2 (fun l => some (.tup l)) (purA tupG)) (aCons (xVar 1) (aNil))))))))
noncomputable def F_form_of : FF := defF 1 10 b_form_of
--@ Form_neg
-- Form.__neg__: 0 self, 1 coefficient, 2 base
noncomputable def b_Form_neg : FS := sRet (xCall F_form_of (aCons (xLcP (wAny (x1 (xVar 0) (pur1 (fldG "Form" "sums")))) (gT 2 (gsCons (gN 1) (gsCons (gN 2) (gsNil)))) [1, 2] (tAll) (xA (aCons (xVar 2) (aCons (x1 (xVar 1) (pur1 negD)) (aCons (x1 (xVar 0) (pur1 (fldG "Form" "under"))) (aNil)))) (purA mkTup))) (aNil)))
noncomputable def F_Form_neg : FF := defF 1 3 b_Form_neg
--@ law_terms
-- _law_terms: 0 _law_purse_here, 1 _law_most, 2 _law_turn, 3 _law_found, 4 _law_base, 5 _law_size
noncomputable def b_law_terms : FS := sSeq (sPar 3 4 (vLst (aNil)) (vVal (xC (.int 61)))) (sSeq (sFor (wRng1 (aCons (xCall F_law_draw (aCons (xVar 0) (aCons (x2 (xVar 1) (xC (.int 1)) (pur2 addD)) (aNil)))) (aNil))) (gN 2) [2, 5] (sSeq (sSet 4 (xIf (tOf (x2 (xVar 4) (xC (.int 0)) (pur2 opGt))) (xCall F_law_draw (aCons (xVar 0) (aCons (xVar 4) (aNil)))) (x1 (xC (.int 1)) (pur1 negD)))) (sSeq (sSet 5 (x2 (xC (.int 1)) (xCall F_law_draw (aCons (xVar 0) (aCons (x2 (xA (aCons (xC (.int 3)) (aCons (xC (.int 12)) (aCons (x2 (xC (.int 10)) (xC (.int 9)) (pur2 powD)) (aNil)))) (purA mkLst)) (xCall F_law_draw (aCons (xVar 0) (aCons (xC (.int 3)) (aNil)))) ixG) (aNil)))) (pur2 addD))) (sIf (tOf (x2 (xVar 4) (xC (.int 0)) (pur2 opGe))) (sDrop (onL 3 (aCons (xA (aCons (xIf (tOf (x2 (xCall F_law_draw (aCons (xVar 0) (aCons (xC (.int 2)) (aNil)))) (xC (.int 0)) (pur2 opEq))) (xVar 5) (x1 (xVar 5) (pur1 negD))) (aCons (xVar 4) (aNil))) (purA mkTup)) (aNil)) (apG 3))) (sNx))))) (sRet (xA (aCons (xOwn 3 (fun l => some (.tup l)) (purA tupG)) (aCons (x2 (xC (.int 1)) (xCall F_law_draw (aCons (xVar 0) (aCons (x2 (xA (aCons (xC (.int 1)) (aCons (xC (.int 6)) (aCons (xC (.int 60)) (aNil)))) (purA mkLst)) (xCall F_law_draw (aCons (xVar 0) (aCons (xC (.int 3)) (aNil)))) ixG) (aNil)))) (pur2 addD)) (aNil))) (purA mkTup))))
noncomputable def F_law_terms : FF := defF 2 6 b_law_terms
--@ law_sign_of
-- _law_sign_of: 0 _law_size
noncomputable def b_law_sign_of : FS := sRet (xIf (tOf (x2 (xVar 0) (xC (.int 0)) (pur2 opEq))) (xC (.int 0)) (xIf (tOf (x2 (xVar 0) (xC (.int 0)) (pur2 opGt))) (xC (.int 1)) (x1 (xC (.int 1)) (pur1 negD))))
noncomputable def F_law_sign_of : FF := defF 1 1 b_law_sign_of
--@ law_rules
-- _law_rules: 0 _law_sizes, 1 _law_sums, 2 _law_size
noncomputable def b_law_rules : FS := sSeq (sIf (tOr (tOf (x2 (xVar 1) (xA (aNil) (purA mkTup)) (pur2 opEq))) (tOf (x2 (x2 (x2 (xVar 1) (xC (.int 0)) ixG) (xC (.int 1)) ixG) (xC (.int 0)) (pur2 opEq)))) (sRet (xC (.bl true))) (sNx)) (sRet (x2 (xA (aCons (x2 (xVar 0) (xC (.int 0)) ixG) (aNil)) (purA absG)) (xA (aCons (xLcP (wAny (xSl (xVar 0) (oSome (xC (.int 1))) oNone)) (gN 2) [2] (tAll) (xA (aCons (xVar 2) (aNil)) (purA absG))) (aNil)) (purA sumG)) (pur2 opGt)))
noncomputable def F_law_rules : FF := defF 2 3 b_law_rules
--@ law_power
-- _law_power: 0 _law_base, 1 _law_n, 2 _law_found, 3 _law_turn
noncomputable def b_law_power : FS := sSeq (sSet 2 (xC (.int 1))) (sSeq (sFor (wRng1 (aCons (xVar 1) (aNil))) (gN 3) [3] (sSet 2 (x2 (xVar 2) (xVar 0) (pur2 mulD)))) (sRet (xVar 2)))
noncomputable def F_law_power : FF := defF 2 4 b_law_power
--@ law_sum
-- _law_sum: 0 _law_terms_here, 1 _law_n, 2 _law_coefficient, 3 _law_base
noncomputable def b_law_sum : FS := sRet (xA (aCons (xLcP (wAny (xVar 0)) (gT 2 (gsCons (gN 2) (gsCons (gN 3) (gsNil)))) [2, 3] (tAll) (x2 (xVar 2) (xCall F_law_power (aCons (xVar 3) (aCons (xVar 1) (aNil)))) (pur2 mulD))) (aNil)) (purA sumG))
noncomputable def F_law_sum : FF := defF 2 4 b_law_sum
--@ check_form
-- check_form: 0 form
noncomputable def b_check_form : FS := sIf (tNt (tOf (xA (aCons (xVar 0) (aCons (xC (.glo "Form")) (aNil))) (purA (isCG "Form" (clsB "Form")))))) (sNo) (sNx)
noncomputable def F_check_form : FF := defF 1 1 b_check_form
--@ Form_add
-- Form.__add__: 0 self, 1 other, 2 mine, 3 coefficient, 4 base
noncomputable def b_Form_add : FS := sSeq (sDrop (xCall F_check_form (aCons (xVar 1) (aNil)))) (sSeq (sSet 2 (xLcP (wAny (x1 (xVar 0) (pur1 (fldG "Form" "sums")))) (gT 2 (gsCons (gN 3) (gsCons (gN 4) (gsNil)))) [3, 4] (tAll) (xA (aCons (xVar 4) (aCons (xVar 3) (aCons (x1 (xVar 0) (pur1 (fldG "Form" "under"))) (aNil)))) (purA mkTup)))) (sRet (xCall F_form_of (aCons (xA (aStar (xVar 2) (aStar (xLcP (wAny (x1 (xVar 1) (pur1 (fldG "Form" "sums")))) (gT 2 (gsCons (gN 3) (gsCons (gN 4) (gsNil)))) [3, 4] (tAll) (xA (aCons (xVar 4) (aCons (xVar 3) (aCons (x1 (xVar 1) (pur1 (fldG "Form" "under"))) (aNil)))) (purA mkTup))) (aNil))) (purA mkLst)) (aNil)))))
noncomputable def F_Form_add : FF := defF 2 5 b_Form_add
--@ Form_eq
-- Form.__eq__: 0 self, 1 other
noncomputable def b_Form_eq : FS := sRet (vAn (xA (aCons (xVar 1) (aCons (xC (.glo "Form")) (aNil))) (purA (isCG "Form" (clsB "Form")))) (vAn (x2 (x1 (xVar 0) (pur1 (fldG "Form" "sums"))) (x1 (xVar 1) (pur1 (fldG "Form" "sums"))) (pur2 opEq)) (x2 (x1 (xVar 0) (pur1 (fldG "Form" "under"))) (x1 (xVar 1) (pur1 (fldG "Form" "under"))) (pur2 opEq))))
noncomputable def F_Form_eq : FF := defF 2 2 b_Form_eq
--@ Form_parts
-- Form.parts: 0 self
noncomputable def b_Form_parts : FS := sRet (x1 (xVar 0) (pur1 (fldG "Form" "under")))
noncomputable def F_Form_parts : FF := defF 1 1 b_Form_parts
--@ Form_sub
-- Form.__sub__: 0 self, 1 other, 2 mine, 3 coefficient, 4 base
noncomputable def b_Form_sub : FS := sSeq (sDrop (xCall F_check_form (aCons (xVar 1) (aNil)))) (sSeq (sSet 2 (xLcP (wAny (x1 (xVar 0) (pur1 (fldG "Form" "sums")))) (gT 2 (gsCons (gN 3) (gsCons (gN 4) (gsNil)))) [3, 4] (tAll) (xA (aCons (xVar 4) (aCons (xVar 3) (aCons (x1 (xVar 0) (pur1 (fldG "Form" "under"))) (aNil)))) (purA mkTup)))) (sRet (xCall F_form_of (aCons (xA (aStar (xVar 2) (aStar (xLcP (wAny (x1 (xVar 1) (pur1 (fldG "Form" "sums")))) (gT 2 (gsCons (gN 3) (gsCons (gN 4) (gsNil)))) [3, 4] (tAll) (xA (aCons (xVar 4) (aCons (x1 (xVar 3) (pur1 negD)) (aCons (x1 (xVar 1) (pur1 (fldG "Form" "under"))) (aNil)))) (purA mkTup))) (aNil))) (purA mkLst)) (aNil)))))
noncomputable def F_Form_sub : FF := defF 2 5 b_Form_sub
--@ Form_mul
-- Form.__mul__: 0 self, 1 times, 2 coefficient, 3 base
noncomputable def b_Form_mul : FS := sSeq (sIf (tNt (tOf (xCall F_is_integer (aCons (xVar 1) (aNil))))) (sNo) (sNx)) (sRet (xCall F_form_of (aCons (xLcP (wAny (x1 (xVar 0) (pur1 (fldG "Form" "sums")))) (gT 2 (gsCons (gN 2) (gsCons (gN 3) (gsNil)))) [2, 3] (tAll) (xA (aCons (xVar 3) (aCons (x2 (xVar 2) (xVar 1) (pur2 mulD)) (aCons (x1 (xVar 0) (pur1 (fldG "Form" "under"))) (aNil)))) (purA mkTup))) (aNil))))
noncomputable def F_Form_mul : FF := defF 2 4 b_Form_mul
--@ Form_len
-- Form.__len__: 0 self
noncomputable def b_Form_len : FS := sRet (xA (aCons (x1 (xVar 0) (pur1 (fldG "Form" "sums"))) (aNil)) lenG)
noncomputable def F_Form_len : FF := defF 1 1 b_Form_len
--@ law_is
-- _law_is: 0 _law_tale, 1 _law_pair
noncomputable def b_law_is : FS := sRet (x2 (xA (aCons (xA (aCons (xProp "Form" F_Form_terms (xVar 0)) (aCons (xProp "Form" F_Form_parts (xVar 0)) (aNil))) (purA mkTup)) (aNil)) (purA reprG)) (xA (aCons (xVar 1) (aNil)) (purA reprG)) (pur2 opEq))
noncomputable def F_law_is : FF := defF 2 2 b_law_is
--@ law_gcd
-- _law_gcd: 0 _law_one, 1 _law_other, 2 _law_turn
noncomputable def b_law_gcd : FS := sSeq (sPar 0 1 (vVal (xA (aCons (xVar 0) (aNil)) (purA absG))) (vVal (xA (aCons (xVar 1) (aNil)) (purA absG)))) (sSeq (sFor (wRng1 (aCons (xC (.int 10000)) (aNil))) (gN 2) [2] (sSeq (sIf (tOf (x2 (xVar 1) (xC (.int 0)) (pur2 opEq))) (sBrk) (sNx)) (sPar 0 1 (vVal (xVar 1)) (vVal (x2 (xVar 0) (xVar 1) (pur2 modD)))))) (sRet (xVar 0)))
noncomputable def F_law_gcd : FF := defF 2 3 b_law_gcd
--@ law_lowest
-- _law_lowest: 0 _law_terms_here, 1 _law_parts, 2 _law_shared, 3 _law_coefficient, 4 _law_base
noncomputable def b_law_lowest : FS := sSeq (sSet 2 (xVar 1)) (sSeq (sFor (wAny (xVar 0)) (gT 2 (gsCons (gN 3) (gsCons (gN 4) (gsNil)))) [] (sSet 2 (xCall F_law_gcd (aCons (xVar 2) (aCons (xVar 3) (aNil)))))) (sRet (xA (aCons (xA (aCons (xLcP (wAny (xVar 0)) (gT 2 (gsCons (gN 3) (gsCons (gN 4) (gsNil)))) [3, 4] (tAll) (xA (aCons (x2 (xVar 3) (xVar 2) (pur2 fdivD)) (aCons (xVar 4) (aNil))) (purA mkTup))) (aNil)) (purA tupG)) (aCons (x2 (xVar 1) (xVar 2) (pur2 fdivD)) (aNil))) (purA mkTup))))
noncomputable def F_law_lowest : FF := defF 2 5 b_law_lowest
--@ law_mixed
-- _law_mixed: 0 _law_pairs, 1 _law_base, 2 _law_whole, 3 _law_sums, 4 _law_terms_here, 5 _law_parts, 6 _law_factor, 7 _law_size, 8 _law_one, 9 _law_mate
noncomputable def b_law_mixed : FS := sSeq (sPar 2 3 (vVal (xC (.int 1))) (vLst (aNil))) (sSeq (sFor (wAny (xVar 0)) (gT 3 (gsCons (gN 4) (gsCons (gN 5) (gsCons (gN 6) (gsNil))))) [] (sSet 2 (x2 (xVar 2) (xVar 5) (pur2 mulD)))) (sSeq (sFor (wRng3 (aCons (xC (.int 60)) (aCons (x1 (xC (.int 1)) (pur1 negD)) (aCons (x1 (xC (.int 1)) (pur1 negD)) (aNil))))) (gN 1) [1, 7] (sSeq (sSet 7 (xC (.int 0))) (sSeq (sFor (wAny (xVar 0)) (gT 3 (gsCons (gN 4) (gsCons (gN 5) (gsCons (gN 6) (gsNil))))) [8, 9] (sSet 7 (x2 (xVar 7) (x2 (x2 (xVar 6) (x2 (xVar 2) (xVar 5) (pur2 fdivD)) (pur2 mulD)) (xA (aCons (xLcP (wAny (xVar 4)) (gT 2 (gsCons (gN 8) (gsCons (gN 9) (gsNil)))) [8, 9] (tOf (x2 (xVar 9) (xVar 1) (pur2 opEq))) (xVar 8)) (aNil)) (purA sumG)) (pur2 mulD)) (pur2 addD)))) (sIf (tOf (x2 (xVar 7) (xC (.int 0)) (pur2 opNe))) (sDrop (onL 3 (aCons (xA (aCons (xVar 7) (aCons (xVar 1) (aNil))) (purA mkTup)) (aNil)) (apG 3))) (sNx))))) (sRet (xCall F_law_lowest (aCons (xOwn 3 (fun l => some (.tup l)) (purA tupG)) (aCons (xVar 2) (aNil)))))))
noncomputable def F_law_mixed : FF := defF 1 10 b_law_mixed
--@ Form_turns
-- Form.turns: 0 self, 1 sizes, 2 found, 3 n, 4 coefficient, 5 base, 6 size
noncomputable def b_Form_turns : FS := sSeq (sSet 1 (xLcP (wAny (x1 (xVar 0) (pur1 (fldG "Form" "sums")))) (gT 2 (gsCons (gN 4) (gsCons (gN 5) (gsNil)))) [4, 5] (tAll) (xVar 4))) (sSeq (sPar 2 3 (vLst (aCons (xA (aCons (xC (.int 0)) (aCons (xCall F_sign_of (aCons (xA (aCons (xVar 1) (aNil)) (purA sumG)) (aNil))) (aNil))) (purA mkTup)) (aNil))) (vVal (xC (.int 0)))) (sSeq (sWh (tNt (tOf (xCall F_is_ruled (aCons (x1 (xVar 0) (pur1 (fldG "Form" "sums"))) (aCons (xVar 1) (aCons (xVar 3) (aNil))))))) (sSeq (sSet 1 (xLcP (wZipM (aCons (xVar 1) (aCons (x1 (xVar 0) (pur1 (fldG "Form" "sums"))) (aNil)))) (gT 2 (gsCons (gN 6) (gsCons (gT 2 (gsCons (gN 4) (gsCons (gN 5) (gsNil)))) (gsNil)))) [6, 4, 5] (tAll) (x2 (xVar 6) (xVar 5) (pur2 mulD)))) (sSeq (sSet 3 (x2 (xVar 3) (xC (.int 1)) (pur2 addD))) (sIf (tOf (x2 (xCall F_sign_of (aCons (xA (aCons (xVar 1) (aNil)) (purA sumG)) (aNil))) (x2 (xIxN 2 (x1 (xC (.int 1)) (pur1 negD))) (xC (.int 1)) ixG) (pur2 opNe))) (sDrop (onL 2 (aCons (xA (aCons (xVar 3) (aCons (xCall F_sign_of (aCons (xA (aCons (xVar 1) (aNil)) (purA sumG)) (aNil))) (aNil))) (purA mkTup)) (aNil)) (apG 2))) (sNx))))) (sRet (xOwn 2 (fun l => some (.tup l)) (purA tupG)))))
noncomputable def F_Form_turns : FF := defF 1 7 b_Form_turns
--@ law_turns
-- _law_turns: 0 _law_sums, 1 _law_m, 2 _law_sizes, 3 _law_found, 4 _law_sign, 5 _law_size, 6 _law_root, 7 _law_pair
noncomputable def b_law_turns : FS := sSeq (sPar3 2 3 1 (xLcP (wAny (xVar 0)) (gT 2 (gsCons (gN 5) (gsCons (gN 6) (gsNil)))) [5, 6] (tAll) (xVar 5)) (vLst (aNil)) (xC (.int 0))) (sSeq (sFor (wRng1 (aCons (xC (.int 4000)) (aNil))) (gN 1) [4, 7] (sSeq (sSet 4 (xCall F_law_sign_of (aCons (xA (aCons (xVar 2) (aNil)) (purA sumG)) (aNil)))) (sSeq (sIf (tOr (tOf (xEqN false 3 (xA (aNil) (purA mkLst)))) (tOf (x2 (x2 (xIxN 3 (x1 (xC (.int 1)) (pur1 negD))) (xC (.int 1)) ixG) (xVar 4) (pur2 opNe)))) (sDrop (onL 3 (aCons (xA (aCons (xVar 1) (aCons (xVar 4) (aNil))) (purA mkTup)) (aNil)) (apG 3))) (sNx)) (sSeq (sIf (tAn (tOf (x2 (xVar 1) (xC (.int 0)) (pur2 opGt))) (tOf (xCall F_law_rules (aCons (xVar 2) (aCons (xVar 0) (aNil)))))) (sBrk) (sNx)) (sSet 2 (xLcP (wZipM (aCons (xVar 2) (aCons (xVar 0) (aNil)))) (gT 2 (gsCons (gN 5) (gsCons (gN 7) (gsNil)))) [5, 7] (tAll) (x2 (xVar 5) (x2 (xVar 7) (xC (.int 1)) ixG) (pur2 mulD)))))))) (sRet (xA (aCons (xOwn 3 (fun l => some (.tup l)) (purA tupG)) (aCons (xVar 1) (aNil))) (purA mkTup))))
noncomputable def F_law_turns : FF := defF 1 8 b_law_turns
--@ number_of
-- number_of: 0 text, 1 sign
noncomputable def b_number_of : FS := sSeq (sIf (tOr (tOf (x2 (xVar 0) (xC (.str "")) (pur2 opEq))) (tNt (tOf (xA (aCons (xLcP (wAny (xVar 0)) (gN 1) [1] (tAll) (x2 (xVar 1) (xC (.str "0123456789")) (pur2 opIn))) (aNil)) (purA allG))))) (sRet (xC .non)) (sNx)) (sSeq (sIf (tAn (tOf (x2 (xVar 0) (xC (.str "0")) (pur2 opNe))) (tOf (x2 (x2 (xVar 0) (xC (.int 0)) ixG) (xC (.str "0")) (pur2 opEq)))) (sRet (xC .non)) (sNx)) (sRet (xA (aCons (xVar 0) (aNil)) (purA int2G))))
noncomputable def F_number_of : FF := defF 1 2 b_number_of
--@ integer_with
-- integer_with: 0 text, 1 number
noncomputable def b_integer_with : FS := sSeq (sIf (tOf (x2 (xSl (xVar 0) oNone (oSome (xC (.int 1)))) (xC (.str "-")) (pur2 opEq))) (sSeq (sSet 1 (xCall F_number_of (aCons (xSl (xVar 0) (oSome (xC (.int 1))) oNone) (aNil)))) (sRet (xIf (tOr (tOf (x2 (xVar 1) (xC .non) (pur2 opIs))) (tOf (x2 (xVar 1) (xC (.int 0)) (pur2 opEq)))) (xC .non) (x1 (xVar 1) (pur1 negD))))) (sNx)) (sRet (xCall F_number_of (aCons (xVar 0) (aNil))))
noncomputable def F_integer_with : FF := defF 1 2 b_integer_with
--@ term_with
-- term_with: 0 text, 1 head, 2 mark, 3 rest, 4 coefficient, 5 base
noncomputable def b_term_with : FS := sSeq (sAsg (sM1 partG (xVar 0) (xC (.str "*"))) (hT 3 (hsCons (hN_ 1) (hsCons (hN_ 2) (hsCons (hN_ 3) (hsNil)))))) (sSeq (sIf (tOf (x2 (xSl (xVar 3) (oSome (x1 (xC (.int 2)) (pur1 negD))) oNone) (xC (.str "^n")) (pur2 opNe))) (sRet (xC .non)) (sNx)) (sSeq (sPar 4 5 (vVal (xCall F_integer_with (aCons (xVar 1) (aNil)))) (vVal (xCall F_number_of (aCons (xSl (xVar 3) oNone (oSome (x1 (xC (.int 2)) (pur1 negD)))) (aNil))))) (sRet (xIf (tOr (tOf (x2 (xVar 4) (xC .non) (pur2 opIs))) (tOf (x2 (xVar 5) (xC .non) (pur2 opIs)))) (xC .non) (xA (aCons (xVar 4) (aCons (xVar 5) (aNil))) (purA mkTup))))))
noncomputable def F_term_with : FF := defF 1 6 b_term_with
--@ form_with
-- form_with: 0 text, 1 terms, 2 line, 3 parts, 4 head, 5 mark, 6 rest, 7 piece
noncomputable def b_form_with : FS := sSeq (sIf (tNt (tOf (xA (aCons (xVar 0) (aCons (xC (.ty "str")) (aNil))) (purA isiG)))) (sRet (xC .non)) (sNx)) (sSeq (sIf (tOf (x2 (xVar 0) (xC (.str "0")) (pur2 opEq))) (sRet (xMake "Form" (dflI I_Form_init [.int 1]) (aCons (xA (aNil) (purA mkTup)) (aNil)))) (sNx)) (sSeq (sPar 2 3 (vVal (xVar 0)) (vVal (xC (.int 1)))) (sSeq (sIf (tOf (x2 (xSl (xVar 0) oNone (oSome (xC (.int 1)))) (xC (.str "(")) (pur2 opEq))) (sSeq (sAsg (sM1 partG (xVar 0) (xC (.str ")/"))) (hT 3 (hsCons (hN_ 4) (hsCons (hN_ 5) (hsCons (hN_ 6) (hsNil)))))) (sSeq (sPar 2 3 (vVal (xSl (xVar 4) (oSome (xC (.int 1))) oNone)) (vVal (xCall F_number_of (aCons (xVar 6) (aNil))))) (sIf (tOr (tOf (x2 (xVar 3) (xC .non) (pur2 opIs))) (tOf (x2 (xVar 3) (xC (.int 2)) (pur2 opLt)))) (sRet (xC .non)) (sNx)))) (sNx)) (sSeq (sSet 1 (xA (aCons (xLcP (wAny (sM1 splitG (xVar 2) (xC (.str " + ")))) (gN 7) [7] (tAll) (xCall F_term_with (aCons (xVar 7) (aNil)))) (aNil)) (purA tupG))) (sSeq (sIf (tOr (tOf (x2 (xCall F_wrong_term (aCons (xVar 1) (aNil))) (x1 (xC (.int 1)) (pur1 negD)) (pur2 opNe))) (tOf (x2 (xCall F_shared_divisor (aCons (xVar 1) (aCons (xVar 3) (aNil)))) (xC (.int 1)) (pur2 opNe)))) (sRet (xC .non)) (sNx)) (sRet (xMake "Form" I_Form_init (aCons (xVar 1) (aCons (xVar 3) (aNil))))))))))
noncomputable def F_form_with : FF := defF 1 8 b_form_with
--@ Form_read
-- Form.read: 0 cls, 1 text, 2 form
noncomputable def b_Form_read : FS := sSeq (sSet 2 (xCall F_form_with (aCons (xVar 1) (aNil)))) (sSeq (sIf (tOf (x2 (xVar 2) (xC .non) (pur2 opIs))) (sNo) (sNx)) (sRet (xVar 2)))
noncomputable def F_Form_read : FF := defF 2 3 b_Form_read
--@ Form_bool
-- Form.__bool__: 0 self
noncomputable def b_Form_bool : FS := sRet (xC (.bl true))
noncomputable def F_Form_bool : FF := defF 1 1 b_Form_bool
--@ text_of
-- text_of: 0 terms, 1 parts, 2 line, 3 coefficient, 4 base
noncomputable def b_text_of : FS := sSeq (sSet 2 (sM1 joinG (xC (.str " + ")) (xLcP (wAny (xVar 0)) (gT 2 (gsCons (gN 3) (gsCons (gN 4) (gsNil)))) [3, 4] (tAll) (fJs [x1 (xVar 3) (pur1 fmtB), xC (.str "*"), x1 (xVar 4) (pur1 fmtB), xC (.str "^n")] Str.empty)))) (sSeq (sIf (tOf (x2 (xVar 2) (xC (.str "")) (pur2 opEq))) (sRet (xC (.str "0"))) (sNx)) (sRet (xIf (tOf (x2 (xVar 1) (xC (.int 1)) (pur2 opEq))) (xVar 2) (fJs [xC (.str "("), x1 (xVar 2) (pur1 fmtB), xC (.str ")/"), x1 (xVar 1) (pur1 fmtB)] Str.empty))))
noncomputable def F_text_of : FF := defF 2 5 b_text_of
--@ Form_str
-- Form.__str__: 0 self
noncomputable def b_Form_str : FS := sRet (x1 (xCall F_text_of (aCons (x1 (xVar 0) (pur1 (fldG "Form" "sums"))) (aCons (x1 (xVar 0) (pur1 (fldG "Form" "under"))) (aNil)))) (pur1 fmtB))
noncomputable def F_Form_str : FF := defF 1 1 b_Form_str
--@ Form_repr
-- Form.__repr__: 0 self
noncomputable def b_Form_repr : FS := sRet (fJs [xC (.str "Form "), x1 (xVar 0) (ownF1 "Form" F_Form_str)] Str.empty)
noncomputable def F_Form_repr : FF := defF 1 1 b_Form_repr
--@ lowest
-- lowest: 0 numerator, 1 denominator, 2 divisor
noncomputable def b_lowest : FS := sSeq (sSet 2 (xCall F_greatest_divisor (aCons (xVar 0) (aCons (xVar 1) (aNil))))) (sSeq (sIf (tOf (x2 (xVar 1) (xC (.int 0)) (pur2 opLt))) (sSet 2 (x1 (xVar 2) (pur1 negD))) (sNx)) (sRet (xA (aCons (x2 (xVar 0) (xVar 2) (pur2 fdivD)) (aCons (x2 (xVar 1) (xVar 2) (pur2 fdivD)) (aNil))) (purA mkTup))))
noncomputable def F_lowest : FF := defF 2 3 b_lowest
--@ Form_getitem
-- Form.__getitem__: 0 self, 1 base, 2 coefficient, 3 one
noncomputable def b_Form_getitem : FS := sSeq (sIf (tNt (tOf (xCall F_is_natural (aCons (xVar 1) (aNil))))) (sNo) (sNx)) (sSeq (sFor (wAny (x1 (xVar 0) (pur1 (fldG "Form" "sums")))) (gT 2 (gsCons (gN 2) (gsCons (gN 3) (gsNil)))) [2, 3] (sIf (tOf (x2 (xVar 3) (xVar 1) (pur2 opEq))) (sRet (xCall F_lowest (aCons (xVar 2) (aCons (x1 (xVar 0) (pur1 (fldG "Form" "under"))) (aNil))))) (sNx))) (sRet (xA (aCons (xC (.int 0)) (aCons (xC (.int 1)) (aNil))) (purA mkTup))))
noncomputable def F_Form_getitem : FF := defF 2 4 b_Form_getitem
--@ law_form_text
-- _law_form_text: 0 _law_sums, 1 _law_share, 2 _law_line, 3 _law_coefficient, 4 _law_base
noncomputable def b_law_form_text : FS := sSeq (sSet 2 (sM1 joinG (xC (.str " + ")) (xLcP (wAny (xVar 0)) (gT 2 (gsCons (gN 3) (gsCons (gN 4) (gsNil)))) [3, 4] (tAll) (x2 (x2 (x2 (xA (aCons (xVar 3) (aNil)) (purA strG)) (xC (.str "*")) (pur2 addD)) (xA (aCons (xVar 4) (aNil)) (purA strG)) (pur2 addD)) (xC (.str "^n")) (pur2 addD))))) (sSeq (sIf (tOf (x2 (xVar 2) (xC (.str "")) (pur2 opEq))) (sRet (xC (.str "0"))) (sNx)) (sRet (xIf (tOf (x2 (xVar 1) (xC (.int 1)) (pur2 opEq))) (xVar 2) (x2 (x2 (x2 (xC (.str "(")) (xVar 2) (pur2 addD)) (xC (.str ")/")) (pur2 addD)) (xA (aCons (xVar 1) (aNil)) (purA strG)) (pur2 addD)))))
noncomputable def F_law_form_text : FF := defF 2 5 b_law_form_text
end Sp
end
section
set_option Elab.async false
set_option linter.all false
set_option autoImplicit false
set_option maxRecDepth 100000
set_option maxHeartbeats 4000000
namespace Sk22
open PySem PySem.Spec PyProof.Rows L2 Qd
open Sp
-- _law_right: 0 _law_purse_here, 1 _law_tale, 2 _law_m, 3 _law_late, 4 _law_sums, 5 _law_share, 6 _law_small, 7 _law_due, 8 _law_last, 9 _law_one, 10 _law_size, 11 _law_root, 12 _law_sign
noncomputable def b_law_right : FS := sSeq (sAsg (xCall F_law_terms (aCons (xVar 0) (aCons (xC (.int 5)) (aNil)))) (hT 2 (hsCons (hN_ 4) (hsCons (hN_ 5) (hsNil))))) (sSeq (sIf (tOf (x2 (xCall F_law_draw (aCons (xVar 0) (aCons (xC (.int 2)) (aNil)))) (xC (.int 0)) (pur2 opEq))) (sSeq (sSet 6 (xLcP (wAny (xVar 4)) (gN 9) [9] (tAll) (xCall F_law_draw (aCons (xVar 0) (aCons (xC (.int 13)) (aNil)))))) (sSet 4 (xA (aCons (xLcP (wAny (xVar 4)) (gT 2 (gsCons (gN 10) (gsCons (gN 11) (gsNil)))) [10, 11] (tOf (x2 (xVar 11) (xVar 6) (pur2 opIn))) (xA (aCons (xVar 10) (aCons (xVar 11) (aNil))) (purA mkTup))) (aNil)) (purA tupG)))) (sNx)) (sSeq (sSet 1 (xMake "Form" I_Form_init (aCons (xVar 4) (aCons (xVar 5) (aNil))))) (sSeq (sAsg (xCall F_law_turns (aCons (xProp "Form" F_Form_terms (xVar 1)) (aNil))) (hT 2 (hsCons (hN_ 7) (hsCons (hN_ 8) (hsNil))))) (sSeq (sIf (tOr (tOf (x2 (xA (aCons (xMeth0 "Form" "turns" F_Form_turns (xVar 1)) (aNil)) (purA reprG)) (xA (aCons (xVar 7) (aNil)) (purA reprG)) (pur2 opNe))) (tOf (x2 (xA (aCons (xMeth0 "Form" "turns" F_Form_turns (x1 (xVar 1) (ownU "Form" F_Form_neg))) (aNil)) (purA reprG)) (xA (aCons (xA (aCons (xLcP (wAny (xVar 7)) (gT 2 (gsCons (gN 2) (gsCons (gN 12) (gsNil)))) [2, 12] (tAll) (xA (aCons (xVar 2) (aCons (x1 (xVar 12) (pur1 negD)) (aNil))) (purA mkTup))) (aNil)) (purA tupG)) (aNil)) (purA reprG)) (pur2 opNe)))) (sRet (xC (.bl false))) (sNx)) (sSeq (sFor (wAny (xA (aCons (x2 (xVar 8) (xC (.int 1)) (pur2 addD)) (aCons (x2 (xVar 8) (xC (.int 2)) (pur2 addD)) (aCons (x2 (xVar 8) (xC (.int 7)) (pur2 addD)) (aNil)))) (purA mkLst))) (gN 2) [] (sIf (tOf (x2 (xCall F_law_sign_of (aCons (xCall F_law_sum (aCons (xVar 4) (aCons (xVar 2) (aNil)))) (aNil))) (x2 (x2 (xVar 7) (x1 (xC (.int 1)) (pur1 negD)) ixG) (xC (.int 1)) ixG) (pur2 opNe))) (sRet (xC (.bl false))) (sNx))) (sSeq (sIf (tOr (tOf (x2 (xMeth0 "Form" "turns" F_Form_turns (xMake "Form" (dflI I_Form_init [.int 1]) (aCons (xA (aNil) (purA mkTup)) (aNil)))) (xA (aCons (xA (aCons (xC (.int 0)) (aCons (xC (.int 0)) (aNil))) (purA mkTup)) (aNil)) (purA mkTup)) (pur2 opNe))) (tOf (x2 (xMeth0 "Form" "turns" F_Form_turns (xMake "Form" (dflI I_Form_init [.int 1]) (aCons (xA (aCons (xA (aCons (xC (.int 3)) (aCons (xC (.int 0)) (aNil))) (purA mkTup)) (aNil)) (purA mkTup)) (aNil)))) (xA (aCons (xA (aCons (xC (.int 0)) (aCons (xC (.int 1)) (aNil))) (purA mkTup)) (aCons (xA (aCons (xC (.int 1)) (aCons (xC (.int 0)) (aNil))) (purA mkTup)) (aNil))) (purA mkTup)) (pur2 opNe)))) (sRet (xC (.bl false))) (sNx)) (sSeq (sIf (tOf (x2 (xMeth0 "Form" "turns" F_Form_turns (xMake "Form" (dflI I_Form_init [.int 1]) (aCons (xA (aCons (xA (aCons (xC (.int 1)) (aCons (xC (.int 3)) (aNil))) (purA mkTup)) (aCons (xA (aCons (x1 (xC (.int 3)) (pur1 negD)) (aCons (xC (.int 1)) (aNil))) (purA mkTup)) (aCons (xA (aCons (xC (.int 2)) (aCons (xC (.int 0)) (aNil))) (purA mkTup)) (aNil)))) (purA mkTup)) (aNil)))) (xA (aCons (xA (aCons (xC (.int 0)) (aCons (xC (.int 0)) (aNil))) (purA mkTup)) (aCons (xA (aCons (xC (.int 2)) (aCons (xC (.int 1)) (aNil))) (purA mkTup)) (aNil))) (purA mkTup)) (pur2 opNe))) (sRet (xC (.bl false))) (sNx)) (sSeq (sIf (tOf (x2 (xMeth0 "Form" "turns" F_Form_turns (xMake "Form" (dflI I_Form_init [.int 1]) (aCons (xA (aCons (xA (aCons (xC (.int 1)) (aCons (xC (.int 2)) (aNil))) (purA mkTup)) (aCons (xA (aCons (x1 (xC (.int 2)) (pur1 negD)) (aCons (xC (.int 1)) (aNil))) (purA mkTup)) (aNil))) (purA mkTup)) (aNil)))) (xA (aCons (xA (aCons (xC (.int 0)) (aCons (x1 (xC (.int 1)) (pur1 negD)) (aNil))) (purA mkTup)) (aCons (xA (aCons (xC (.int 1)) (aCons (xC (.int 0)) (aNil))) (purA mkTup)) (aCons (xA (aCons (xC (.int 2)) (aCons (xC (.int 1)) (aNil))) (purA mkTup)) (aNil)))) (purA mkTup)) (pur2 opNe))) (sRet (xC (.bl false))) (sNx)) (sSeq (sSet 3 (xMake "Form" (dflI I_Form_init [.int 1]) (aCons (xA (aCons (xA (aCons (xC (.int 1)) (aCons (xC (.int 60)) (aNil))) (purA mkTup)) (aCons (xA (aCons (x1 (x2 (xC (.int 10)) (xC (.int 9)) (pur2 powD)) (pur1 negD)) (aCons (xC (.int 59)) (aNil))) (purA mkTup)) (aNil))) (purA mkTup)) (aNil)))) (sRet (vAn (x2 (xMeth0 "Form" "turns" F_Form_turns (xVar 3)) (x2 (xCall F_law_turns (aCons (xProp "Form" F_Form_terms (xVar 3)) (aNil))) (xC (.int 0)) ixG) (pur2 opEq)) (x2 (xA (aCons (xMeth0 "Form" "turns" F_Form_turns (xVar 3)) (aNil)) lenG) (xC (.int 2)) (pur2 opEq)))))))))))))
noncomputable def F_law_right : FF := defF 1 13 b_law_right
-- law: 0 _law_script, 1 _law_spot
noncomputable def b_law : FS := sRet (xA (aCons (xLcP (wRng1 (aCons (xA (aCons (xC (.int 2)) (aCons (xA (aCons (xA (aCons (xVar 0) (aNil)) lenG) (aCons (xC (.int 4)) (aNil))) (purA minG)) (aNil))) (purA maxG)) (aNil))) (gN 1) [1] (tAll) (xCall F_law_right (aCons (xCall F_law_purse (aCons (xVar 0) (aCons (xVar 1) (aNil)))) (aNil)))) (aNil)) (purA allG))
noncomputable def F_law : FF := defF 1 2 b_law
end Sk22
end
section
set_option Elab.async false
set_option linter.all false
set_option autoImplicit false
set_option maxRecDepth 100000
set_option maxHeartbeats 4000000
namespace Sk22
open PySem PySem.Spec PyProof.Rows L2 Qd
open Sp
def top (i : Nat) : Stmt := PySem.Challenge.pw_sortdraws_k22_whole_turns_of_forms.main.body.getD i (.Pass ⟨0, 0, 0, 0⟩)
def faQ : List FactQ := [(He.Fa.ok · (.free "len")),
  (He.Fa.ok · (.free "min")),
  (He.Fa.ok · (.free "max")),
  (He.Fa.ok · (.free "range")),
  (He.Fa.ok · (.free "divmod")),
  (He.Fa.ok · (.free "int")),
  (He.Fa.ok · (.glo "_law_draw")),
  (He.Fa.ok · (.keep "_law_draw")),
  (He.Fa.ok · (.free "tuple")),
  (He.Fa.ok · (.glo "_law_terms")),
  (He.Fa.ok · (.keep "_law_terms")),
  (He.Fa.ok · (.free "isinstance")),
  (He.Fa.ok · (.free "enumerate")),
  (He.Fa.ok · (.free "bool")),
  (He.Fa.ok · (.glo "is_integer")),
  (He.Fa.ok · (.keep "is_integer")),
  (He.Fa.ok · (.int "MOST_TICKETS" 60)),
  (He.Fa.ok · (.glo "is_natural")),
  (He.Fa.ok · (.keep "is_natural")),
  (He.Fa.ok · (.glo "is_term")),
  (He.Fa.ok · (.keep "is_term")),
  (He.Fa.ok · (.glo "wrong_term")),
  (He.Fa.ok · (.keep "wrong_term")),
  (He.Fa.ok · (.free "abs")),
  (He.Fa.ok · (.glo "greatest_divisor")),
  (He.Fa.ok · (.keep "greatest_divisor")),
  (He.Fa.ok · (.glo "shared_divisor")),
  (He.Fa.ok · (.keep "shared_divisor")),
  (He.Fa.ok · (.glo "Form")),
  (He.Fa.ok · (.cls "Form")),
  (He.Fa.ok · (.noat "Form" "sums")),
  (He.Fa.ok · (.noat "Form" "under")),
  (He.Fa.ok · (.mkr "Form")),
  (He.Fa.ok · (.glo "_law_sign_of")),
  (He.Fa.ok · (.keep "_law_sign_of")),
  (He.Fa.ok · (.free "sum")),
  (He.Fa.ok · (.glo "_law_rules")),
  (He.Fa.ok · (.keep "_law_rules")),
  (He.Fa.ok · (.free "zip")),
  (He.Fa.ok · (.glo "_law_turns")),
  (He.Fa.ok · (.keep "_law_turns")),
  propB "Form" "terms",
  (He.Fa.ok · (.glo "sign_of")),
  (He.Fa.ok · (.keep "sign_of")),
  (He.Fa.ok · (.glo "is_ruled")),
  (He.Fa.ok · (.keep "is_ruled")),
  (He.Fa.ok · (.meth "Form" "turns")),
  (He.Fa.ok · (.glo "form_of")),
  (He.Fa.ok · (.keep "form_of")),
  (He.Fa.ok · (.meth "Form" "__neg__")),
  (He.Fa.ok · (.free "repr")),
  (He.Fa.ok · (.glo "_law_power")),
  (He.Fa.ok · (.keep "_law_power")),
  (He.Fa.ok · (.glo "_law_sum")),
  (He.Fa.ok · (.keep "_law_sum")),
  (He.Fa.ok · (.glo "_law_right")),
  (He.Fa.ok · (.keep "_law_right")),
  (He.Fa.ok · (.glo "_law_purse")),
  (He.Fa.ok · (.keep "_law_purse")),
  (He.Fa.ok · (.free "all")),
  (He.Fa.ok · (.glo "law"))]
def fnQ : List DefQ := [dfQ (atG "_law_draw") "_law_draw" "_law_draw" (top 37),
  dfQ (atG "_law_terms") "_law_terms" "_law_terms" (top 40),
  dfQ (atG "is_integer") "is_integer" "is_integer" (top 14),
  dfQ (atG "is_natural") "is_natural" "is_natural" (top 15),
  dfQ (atG "is_term") "is_term" "is_term" (top 21),
  dfQ (atG "wrong_term") "wrong_term" "wrong_term" (top 22),
  dfQ (atG "greatest_divisor") "greatest_divisor" "greatest_divisor" (top 18),
  dfQ (atG "shared_divisor") "shared_divisor" "shared_divisor" (top 23),
  dfQD (atM "Form" "__init__") "__init__" "Form.__init__" (inCls (top 25) 0) [.int 1],
  dfQ (atG "_law_sign_of") "_law_sign_of" "_law_sign_of" (top 41),
  dfQ (atG "_law_rules") "_law_rules" "_law_rules" (top 42),
  dfQ (atG "_law_turns") "_law_turns" "_law_turns" (top 43),
  dfQ (atP "Form" "terms") "terms" "Form.terms" (inCls (top 25) 2),
  dfQ (atG "sign_of") "sign_of" "sign_of" (top 24),
  dfQ (atG "is_ruled") "is_ruled" "is_ruled" (top 28),
  dfQ (atM "Form" "turns") "turns" "Form.turns" (inCls (top 25) 5),
  dfQ (atG "form_of") "form_of" "form_of" (top 30),
  dfQ (atM "Form" "__neg__") "__neg__" "Form.__neg__" (inCls (top 25) 9),
  dfQ (atG "_law_power") "_law_power" "_law_power" (top 38),
  dfQ (atG "_law_sum") "_law_sum" "_law_sum" (top 39),
  dfQ (atG "_law_right") "_law_right" "_law_right" (top 44),
  dfQ (atG "_law_purse") "_law_purse" "_law_purse" (top 36),
  dfQ (atG "law") "law" "law" (top 45)]
section
variable {P : Program} {w : World} {K : PySem.W.Frag} {mg : Str → Option Value} {base : Heap}
/-! _law_draw -/
theorem sc_law_draw : FnScope ["_law_purse_here", "_law_many", "_law_digit"] ["_law_purse_here", "_law_many"] (defScope (top 37)) := ⟨rfl, rfl, rfl, by decide +kernel, rfl, by decide +kernel, by decide +kernel⟩
theorem s_law_draw (T : TopQ faQ fnQ K mg) {c : C0} {g : Addr} {cdv : Value} {A : Around} {outer : List PySem.Env} {s : Shared} {H : Hp} {E : XK} (hr : Room 0 (A.deeper (envOfC "_law_draw" (defScope (top 37)) s.heap.objs.size g cdv))) (hg : A.guards = some []) :
    SSs (cxOf (L2.CX P w) P w K mg base ["_law_purse_here", "_law_many", "_law_digit"] "_law_draw" (defScope (top 37)) g cdv A outer s H E) c (fun cls d _ H => E cls d H) (defBody (top 37)) b_law_draw := by
  have sc := sc_law_draw
  have hu := Qd.Room.hu hr
  exact (sss_cons (ss_if (et_gt (ee_ix hu (ee_var (i := 0) rfl (by first | exact .inl rfl | exact .inr (.inl rfl) | exact .inr (.inr rfl))) ee_int) ee_int) (sss_cons (ss_asg (ee_divmod rfl (T.free 4) (ea_cons (ee_ix hu (ee_var (i := 0) rfl (by first | exact .inl rfl | exact .inr (.inl rfl) | exact .inr (.inr rfl))) ee_int) (ea_cons (ee_var (i := 1) rfl (by first | exact .inl rfl | exact .inr (.inl rfl) | exact .inr (.inr rfl))) ea_nil))) (eh_tup rfl (ehs_cons (eh_obj (ee_var (i := 0) rfl (by first | exact .inl rfl | exact .inr (.inl rfl) | exact .inr (.inr rfl))) ee_int) (ehs_cons (eh_name sc.nd rfl (by first | exact .inl rfl | exact .inr rfl)) ehs_nil)))) (sss_one (ss_ret (ee_var (i := 2) rfl (by first | exact .inl rfl | exact .inr (.inl rfl) | exact .inr (.inr rfl)))))) sss_nil) (sss_cons (ss_asg (ee_mod (ee_intc rfl (T.free 5) (ea_cons (ee_add (ee_mul (ee_ix hu (ee_var (i := 0) rfl (by first | exact .inl rfl | exact .inr (.inl rfl) | exact .inr (.inr rfl))) ee_int) ee_int) ee_int) ea_nil)) ee_int) (eh_obj (ee_var (i := 0) rfl (by first | exact .inl rfl | exact .inr (.inl rfl) | exact .inr (.inr rfl))) ee_int)) (sss_one (ss_ret (ee_mod (ee_intc rfl (T.free 5) (ea_cons (ee_fdiv (ee_ix hu (ee_var (i := 0) rfl (by first | exact .inl rfl | exact .inr (.inl rfl) | exact .inr (.inr rfl))) ee_int) ee_int) ea_nil)) (ee_var (i := 1) rfl (by first | exact .inl rfl | exact .inr (.inl rfl) | exact .inr (.inr rfl))))))))
theorem ok_law_draw (T : TopQ faQ fnQ K mg) : FDG P w K mg base 1 (He.ga K "_law_draw") F_law_draw := by
  obtain ⟨fd, F⟩ := T.df 0
  exact FDG.of (fn_defG F sc_law_draw fun c cdv A outer s H E hr hg => s_law_draw T hr hg) (F.binds fun _ _ _ _ _ _ us hl => match us, hl with | [_, _], _ => rfl)
/-! _law_terms -/
theorem sc_law_terms : FnScope ["_law_purse_here", "_law_most", "_law_turn", "_law_found", "_law_base", "_law_size"] ["_law_purse_here", "_law_most"] (defScope (top 40)) := ⟨rfl, rfl, rfl, by decide +kernel, rfl, by decide +kernel, by decide +kernel⟩
theorem s_law_terms (T : TopQ faQ fnQ K mg) {c : C0} {g : Addr} {cdv : Value} {A : Around} {outer : List PySem.Env} {s : Shared} {H : Hp} {E : XK} (hr : Room 1 (A.deeper (envOfC "_law_terms" (defScope (top 40)) s.heap.objs.size g cdv))) (hg : A.guards = some []) :
    SSs (cxOf (L2.CX P w) P w K mg base ["_law_purse_here", "_law_most", "_law_turn", "_law_found", "_law_base", "_law_size"] "_law_terms" (defScope (top 40)) g cdv A outer s H E) c (fun cls d _ H => E cls d H) (defBody (top 40)) b_law_terms := by
  have sc := sc_law_terms
  have hu := Qd.Room.hu hr
  exact (sss_cons (ss_par (i := 3) (j := 4) rfl sc.nd rfl rfl (by decide) rfl rfl (ev_lst ea_nil) (fun c => (ev_val ee_int)) rfl) (sss_cons (ss_for [2, 5] own_body rfl (ei_range1 rfl (T.free 3) (ea_cons (ee_callG (ok_law_draw T) (hr.mono (by decide)) hg rfl (T.glo 6) (T.keep 7) px_body (ea_cons (ee_var (i := 0) rfl (by first | exact .inl rfl | exact .inr (.inl rfl) | exact .inr (.inr rfl))) (ea_cons (ee_add (ee_var (i := 1) rfl (by first | exact .inl rfl | exact .inr (.inl rfl) | exact .inr (.inr rfl))) ee_int) ea_nil))) ea_nil)) (eg_name sc.nd rfl (by first | exact .inl rfl | exact .inr rfl)) (sss_cons (ss_set (i := 4) sc.nd rfl (by first | exact .inl rfl | exact .inr rfl) (ee_if (et_gt (ee_var (i := 4) rfl (by first | exact .inl rfl | exact .inr (.inl rfl) | exact .inr (.inr rfl))) ee_int) (ee_callG (ok_law_draw T) (hr.mono (by decide)) hg rfl (T.glo 6) (T.keep 7) px_body (ea_cons (ee_var (i := 0) rfl (by first | exact .inl rfl | exact .inr (.inl rfl) | exact .inr (.inr rfl))) (ea_cons (ee_var (i := 4) rfl (by first | exact .inl rfl | exact .inr (.inl rfl) | exact .inr (.inr rfl))) ea_nil))) (ee_neg ee_int))) (sss_cons (ss_set (i := 5) sc.nd rfl (by first | exact .inl rfl | exact .inr rfl) (ee_add ee_int (ee_callG (ok_law_draw T) (hr.mono (by decide)) hg rfl (T.glo 6) (T.keep 7) px_body (ea_cons (ee_var (i := 0) rfl (by first | exact .inl rfl | exact .inr (.inl rfl) | exact .inr (.inr rfl))) (ea_cons (ee_ix hu (ee_lst (ea_cons ee_int (ea_cons ee_int (ea_cons (ee_pow ee_int ee_int) ea_nil)))) (ee_callG (ok_law_draw T) (hr.mono (by decide)) hg rfl (T.glo 6) (T.keep 7) px_body (ea_cons (ee_var (i := 0) rfl (by first | exact .inl rfl | exact .inr (.inl rfl) | exact .inr (.inr rfl))) (ea_cons ee_int ea_nil)))) ea_nil))))) (sss_one (ss_if (et_ge (ee_var (i := 4) rfl (by first | exact .inl rfl | exact .inr (.inl rfl) | exact .inr (.inr rfl))) ee_int) (sss_one (ss_drop (ee_apN (i := 3) rfl (by first | exact .inl rfl | exact .inr (.inl rfl) | exact .inr (.inr rfl)) (ea_cons (ee_tup (ea_cons (ee_if (et_eq hu (ee_callG (ok_law_draw T) (hr.mono (by decide)) hg rfl (T.glo 6) (T.keep 7) px_body (ea_cons (ee_var (i := 0) rfl (by first | exact .inl rfl | exact .inr (.inl rfl) | exact .inr (.inr rfl))) (ea_cons ee_int ea_nil))) ee_int) (ee_var (i := 5) rfl (by first | exact .inl rfl | exact .inr (.inl rfl) | exact .inr (.inr rfl))) (ee_neg (ee_var (i := 5) rfl (by first | exact .inl rfl | exact .inr (.inl rfl) | exact .inr (.inr rfl))))) (ea_cons (ee_var (i := 4) rfl (by first | exact .inl rfl | exact .inr (.inl rfl) | exact .inr (.inr rfl))) ea_nil))) ea_nil)))) sss_nil))))) (sss_one (ss_ret (ee_tup (ea_cons (ee_tupleN (i := 3) rfl (T.free 8) rfl (by first | exact .inl rfl | exact .inr (.inl rfl) | exact .inr (.inr rfl))) (ea_cons (ee_add ee_int (ee_callG (ok_law_draw T) (hr.mono (by decide)) hg rfl (T.glo 6) (T.keep 7) px_body (ea_cons (ee_var (i := 0) rfl (by first | exact .inl rfl | exact .inr (.inl rfl) | exact .inr (.inr rfl))) (ea_cons (ee_ix hu (ee_lst (ea_cons ee_int (ea_cons ee_int (ea_cons ee_int ea_nil)))) (ee_callG (ok_law_draw T) (hr.mono (by decide)) hg rfl (T.glo 6) (T.keep 7) px_body (ea_cons (ee_var (i := 0) rfl (by first | exact .inl rfl | exact .inr (.inl rfl) | exact .inr (.inr rfl))) (ea_cons ee_int ea_nil)))) ea_nil)))) ea_nil)))))))
theorem ok_law_terms (T : TopQ faQ fnQ K mg) : FDG P w K mg base 2 (He.ga K "_law_terms") F_law_terms := by
  obtain ⟨fd, F⟩ := T.df 1
  exact FDG.of (fn_defG F sc_law_terms fun c cdv A outer s H E hr hg => s_law_terms T hr hg) (F.binds fun _ _ _ _ _ _ us hl => match us, hl with | [_, _], _ => rfl)
/-! is_integer -/
theorem sc_is_integer : FnScope ["value"] ["value"] (defScope (top 14)) := ⟨rfl, rfl, rfl, by decide +kernel, rfl, by decide +kernel, by decide +kernel⟩
theorem s_is_integer (T : TopQ faQ fnQ K mg) {c : C0} {g : Addr} {cdv : Value} {A : Around} {outer : List PySem.Env} {s : Shared} {H : Hp} {E : XK} (hr : Room 0 (A.deeper (envOfC "is_integer" (defScope (top 14)) s.heap.objs.size g cdv))) :
    SSs (cxOf (L2.CX P w) P w K mg base ["value"] "is_integer" (defScope (top 14)) g cdv A outer s H E) c (fun cls d _ H => E cls d H) (defBody (top 14)) b_is_integer := by
  have sc := sc_is_integer
  have hu := Qd.Room.hu hr
  exact (sss_one (ss_ret (ee_and (ee_isi rfl (T.free 11) (ea_cons (ee_var (i := 0) rfl (by first | exact .inl rfl | exact .inr (.inl rfl) | exact .inr (.inr rfl))) (ea_cons (ee_bty rfl (T.free 5) (by decide +kernel)) ea_nil))) (ee_one (ee_not (ee_isi rfl (T.free 11) (ea_cons (ee_var (i := 0) rfl (by first | exact .inl rfl | exact .inr (.inl rfl) | exact .inr (.inr rfl))) (ea_cons (ee_bty rfl (T.free 13) (by decide +kernel)) ea_nil))))))))
theorem ok_is_integer (T : TopQ faQ fnQ K mg) : FD P w K mg base 1 (He.ga K "is_integer") F_is_integer := by
  obtain ⟨fd, F⟩ := T.df 2
  exact FD.of (fn_def F sc_is_integer fun c cdv A outer s H E hr => s_is_integer T hr) (F.binds fun _ _ _ _ _ _ us hl => match us, hl with | [_], _ => rfl)
/-! is_natural -/
theorem sc_is_natural : FnScope ["value"] ["value"] (defScope (top 15)) := ⟨rfl, rfl, rfl, by decide +kernel, rfl, by decide +kernel, by decide +kernel⟩
theorem s_is_natural (T : TopQ faQ fnQ K mg) {c : C0} {g : Addr} {cdv : Value} {A : Around} {outer : List PySem.Env} {s : Shared} {H : Hp} {E : XK} (hr : Room 1 (A.deeper (envOfC "is_natural" (defScope (top 15)) s.heap.objs.size g cdv))) :
    SSs (cxOf (L2.CX P w) P w K mg base ["value"] "is_natural" (defScope (top 15)) g cdv A outer s H E) c (fun cls d _ H => E cls d H) (defBody (top 15)) b_is_natural := by
  have sc := sc_is_natural
  have hu := Qd.Room.hu hr
  exact (sss_one (ss_ret (ee_and (ee_call (ok_is_integer T) (hr.mono (by decide)) rfl (T.glo 14) (T.keep 15) px_body (ea_cons (ee_var (i := 0) rfl (by first | exact .inl rfl | exact .inr (.inl rfl) | exact .inr (.inr rfl))) ea_nil)) (ee_one (ee_ge (ee_var (i := 0) rfl (by first | exact .inl rfl | exact .inr (.inl rfl) | exact .inr (.inr rfl))) ee_int)))))
theorem ok_is_natural (T : TopQ faQ fnQ K mg) : FD P w K mg base 2 (He.ga K "is_natural") F_is_natural := by
  obtain ⟨fd, F⟩ := T.df 3
  exact FD.of (fn_def F sc_is_natural fun c cdv A outer s H E hr => s_is_natural T hr) (F.binds fun _ _ _ _ _ _ us hl => match us, hl with | [_], _ => rfl)
/-! is_term -/
theorem sc_is_term : FnScope ["value"] ["value"] (defScope (top 21)) := ⟨rfl, rfl, rfl, by decide +kernel, rfl, by decide +kernel, by decide +kernel⟩
theorem s_is_term (T : TopQ faQ fnQ K mg) {c : C0} {g : Addr} {cdv : Value} {A : Around} {outer : List PySem.Env} {s : Shared} {H : Hp} {E : XK} (hr : Room 2 (A.deeper (envOfC "is_term" (defScope (top 21)) s.heap.objs.size g cdv))) :
    SSs (cxOf (L2.CX P w) P w K mg base ["value"] "is_term" (defScope (top 21)) g cdv A outer s H E) c (fun cls d _ H => E cls d H) (defBody (top 21)) b_is_term := by
  have sc := sc_is_term
  have hu := Qd.Room.hu hr
  exact (sss_cons (ss_if (ew_of (ew_or (et_not (et_val (ee_isi rfl (T.free 11) (ea_cons (ee_var (i := 0) rfl (by first | exact .inl rfl | exact .inr (.inl rfl) | exact .inr (.inr rfl))) (ea_cons (ee_bty rfl (T.free 8) (by decide +kernel)) ea_nil))))) (ew_or (et_ne hu (ee_len rfl (T.free 0) (ea_cons (ee_var (i := 0) rfl (by first | exact .inl rfl | exact .inr (.inl rfl) | exact .inr (.inr rfl))) ea_nil)) ee_int) (ew_or (et_not (et_val (ee_call (ok_is_integer T) (hr.mono (by decide)) rfl (T.glo 14) (T.keep 15) px_body (ea_cons (ee_ix hu (ee_var (i := 0) rfl (by first | exact .inl rfl | exact .inr (.inl rfl) | exact .inr (.inr rfl))) ee_int) ea_nil)))) (ew_or1 (et_eq hu (ee_ix hu (ee_var (i := 0) rfl (by first | exact .inl rfl | exact .inr (.inl rfl) | exact .inr (.inr rfl))) ee_int) ee_int)))))) (sss_one (ss_ret ee_bl)) sss_nil) (sss_one (ss_ret (ee_and (ee_call (ok_is_natural T) (hr.mono (by decide)) rfl (T.glo 17) (T.keep 18) px_body (ea_cons (ee_ix hu (ee_var (i := 0) rfl (by first | exact .inl rfl | exact .inr (.inl rfl) | exact .inr (.inr rfl))) ee_int) ea_nil)) (ee_one (ee_le (ee_ix hu (ee_var (i := 0) rfl (by first | exact .inl rfl | exact .inr (.inl rfl) | exact .inr (.inr rfl))) ee_int) (ee_gint rfl (T.int 16))))))))
theorem ok_is_term (T : TopQ faQ fnQ K mg) : FD P w K mg base 3 (He.ga K "is_term") F_is_term := by
  obtain ⟨fd, F⟩ := T.df 4
  exact FD.of (fn_def F sc_is_term fun c cdv A outer s H E hr => s_is_term T hr) (F.binds fun _ _ _ _ _ _ us hl => match us, hl with | [_], _ => rfl)
/-! wrong_term -/
theorem sc_wrong_term : FnScope ["terms", "k", "term"] ["terms"] (defScope (top 22)) := ⟨rfl, rfl, rfl, by decide +kernel, rfl, by decide +kernel, by decide +kernel⟩
theorem s_wrong_term (T : TopQ faQ fnQ K mg) {c : C0} {g : Addr} {cdv : Value} {A : Around} {outer : List PySem.Env} {s : Shared} {H : Hp} {E : XK} (hr : Room 3 (A.deeper (envOfC "wrong_term" (defScope (top 22)) s.heap.objs.size g cdv))) :
    SSs (cxOf (L2.CX P w) P w K mg base ["terms", "k", "term"] "wrong_term" (defScope (top 22)) g cdv A outer s H E) c (fun cls d _ H => E cls d H) (defBody (top 22)) b_wrong_term := by
  have sc := sc_wrong_term
  have hu := Qd.Room.hu hr
  exact (sss_cons (ss_if (et_not (et_val (ee_isi rfl (T.free 11) (ea_cons (ee_var (i := 0) rfl (by first | exact .inl rfl | exact .inr (.inl rfl) | exact .inr (.inr rfl))) (ea_cons (ee_bty rfl (T.free 8) (by decide +kernel)) ea_nil))))) (sss_one (ss_ret ee_non)) sss_nil) (sss_cons (ss_for [1, 2] own_body rfl (ei_enum rfl (T.free 12) (ea_cons (ee_var (i := 0) rfl (by first | exact .inl rfl | exact .inr (.inl rfl) | exact .inr (.inr rfl))) ea_nil)) (eg_tup rfl (egs_cons (eg_name sc.nd rfl (by first | exact .inl rfl | exact .inr rfl)) (egs_cons (eg_name sc.nd rfl (by first | exact .inl rfl | exact .inr rfl)) egs_nil))) (sss_one (ss_if (ew_of (ew_or (et_not (et_val (ee_call (ok_is_term T) (hr.mono (by decide)) rfl (T.glo 19) (T.keep 20) px_body (ea_cons (ee_var (i := 2) rfl (by first | exact .inl rfl | exact .inr (.inl rfl) | exact .inr (.inr rfl))) ea_nil)))) (ew_or1 (ew_of (ew_and (et_gt (ee_var (i := 1) rfl (by first | exact .inl rfl | exact .inr (.inl rfl) | exact .inr (.inr rfl))) ee_int) (ew_and1 (et_ge (ee_ix hu (ee_var (i := 2) rfl (by first | exact .inl rfl | exact .inr (.inl rfl) | exact .inr (.inr rfl))) ee_int) (ee_ix hu (ee_ix hu (ee_var (i := 0) rfl (by first | exact .inl rfl | exact .inr (.inl rfl) | exact .inr (.inr rfl))) (ee_sub (ee_var (i := 1) rfl (by first | exact .inl rfl | exact .inr (.inl rfl) | exact .inr (.inr rfl))) ee_int)) ee_int)))))))) (sss_one (ss_ret (ee_var (i := 1) rfl (by first | exact .inl rfl | exact .inr (.inl rfl) | exact .inr (.inr rfl))))) sss_nil))) (sss_one (ss_ret (ee_neg ee_int)))))
theorem ok_wrong_term (T : TopQ faQ fnQ K mg) : FD P w K mg base 4 (He.ga K "wrong_term") F_wrong_term := by
  obtain ⟨fd, F⟩ := T.df 5
  exact FD.of (fn_def F sc_wrong_term fun c cdv A outer s H E hr => s_wrong_term T hr) (F.binds fun _ _ _ _ _ _ us hl => match us, hl with | [_], _ => rfl)
/-! greatest_divisor -/
theorem sc_greatest_divisor : FnScope ["one", "other"] ["one", "other"] (defScope (top 18)) := ⟨rfl, rfl, rfl, by decide +kernel, rfl, by decide +kernel, by decide +kernel⟩
theorem s_greatest_divisor (T : TopQ faQ fnQ K mg) {c : C0} {g : Addr} {cdv : Value} {A : Around} {outer : List PySem.Env} {s : Shared} {H : Hp} {E : XK} (hr : Room 0 (A.deeper (envOfC "greatest_divisor" (defScope (top 18)) s.heap.objs.size g cdv))) :
    SSs (cxOf (L2.CX P w) P w K mg base ["one", "other"] "greatest_divisor" (defScope (top 18)) g cdv A outer s H E) c (fun cls d _ H => E cls d H) (defBody (top 18)) b_greatest_divisor := by
  have sc := sc_greatest_divisor
  have hu := Qd.Room.hu hr
  exact (sss_cons (ss_while own_body (et_ne hu (ee_var (i := 1) rfl (by first | exact .inl rfl | exact .inr (.inl rfl) | exact .inr (.inr rfl))) ee_int) (sss_one (ss_par (i := 0) (j := 1) rfl sc.nd rfl rfl (by decide) rfl rfl (ev_val (ee_var (i := 1) rfl (by first | exact .inl rfl | exact .inr (.inl rfl) | exact .inr (.inr rfl)))) (fun c => (ev_val (ee_mod (ee_var (i := 0) rfl (by first | exact .inl rfl | exact .inr (.inl rfl) | exact .inr (.inr rfl))) (ee_var (i := 1) rfl (by first | exact .inl rfl | exact .inr (.inl rfl) | exact .inr (.inr rfl)))))) rfl))) (sss_one (ss_ret (ee_abs rfl (T.free 23) (ea_cons (ee_var (i := 0) rfl (by first | exact .inl rfl | exact .inr (.inl rfl) | exact .inr (.inr rfl))) ea_nil)))))
theorem ok_greatest_divisor (T : TopQ faQ fnQ K mg) : FD P w K mg base 1 (He.ga K "greatest_divisor") F_greatest_divisor := by
  obtain ⟨fd, F⟩ := T.df 6
  exact FD.of (fn_def F sc_greatest_divisor fun c cdv A outer s H E hr => s_greatest_divisor T hr) (F.binds fun _ _ _ _ _ _ us hl => match us, hl with | [_, _], _ => rfl)
/-! shared_divisor -/
theorem sc_shared_divisor : FnScope ["terms", "parts", "divisor", "coefficient", "base"] ["terms", "parts"] (defScope (top 23)) := ⟨rfl, rfl, rfl, by decide +kernel, rfl, by decide +kernel, by decide +kernel⟩
theorem s_shared_divisor (T : TopQ faQ fnQ K mg) {c : C0} {g : Addr} {cdv : Value} {A : Around} {outer : List PySem.Env} {s : Shared} {H : Hp} {E : XK} (hr : Room 1 (A.deeper (envOfC "shared_divisor" (defScope (top 23)) s.heap.objs.size g cdv))) :
    SSs (cxOf (L2.CX P w) P w K mg base ["terms", "parts", "divisor", "coefficient", "base"] "shared_divisor" (defScope (top 23)) g cdv A outer s H E) c (fun cls d _ H => E cls d H) (defBody (top 23)) b_shared_divisor := by
  have sc := sc_shared_divisor
  have hu := Qd.Room.hu hr
  exact (sss_cons (ss_set (i := 2) sc.nd rfl (by first | exact .inl rfl | exact .inr rfl) (ee_var (i := 1) rfl (by first | exact .inl rfl | exact .inr (.inl rfl) | exact .inr (.inr rfl)))) (sss_cons (ss_for [3, 4] own_body rfl (ei_any (ee_var (i := 0) rfl (by first | exact .inl rfl | exact .inr (.inl rfl) | exact .inr (.inr rfl)))) (eg_tup rfl (egs_cons (eg_name sc.nd rfl (by first | exact .inl rfl | exact .inr rfl)) (egs_cons (eg_name sc.nd rfl (by first | exact .inl rfl | exact .inr rfl)) egs_nil))) (sss_one (ss_set (i := 2) sc.nd rfl (by first | exact .inl rfl | exact .inr rfl) (ee_call (ok_greatest_divisor T) (hr.mono (by decide)) rfl (T.glo 24) (T.keep 25) px_body (ea_cons (ee_var (i := 2) rfl (by first | exact .inl rfl | exact .inr (.inl rfl) | exact .inr (.inr rfl))) (ea_cons (ee_var (i := 3) rfl (by first | exact .inl rfl | exact .inr (.inl rfl) | exact .inr (.inr rfl))) ea_nil)))))) (sss_one (ss_ret (ee_var (i := 2) rfl (by first | exact .inl rfl | exact .inr (.inl rfl) | exact .inr (.inr rfl)))))))
theorem ok_shared_divisor (T : TopQ faQ fnQ K mg) : FD P w K mg base 2 (He.ga K "shared_divisor") F_shared_divisor := by
  obtain ⟨fd, F⟩ := T.df 7
  exact FD.of (fn_def F sc_shared_divisor fun c cdv A outer s H E hr => s_shared_divisor T hr) (F.binds fun _ _ _ _ _ _ us hl => match us, hl with | [_, _], _ => rfl)
/-! Form.__init__ -/
theorem sc_Form_init : FnScope ["self", "terms", "parts", "wrong", "divisor", "coefficient", "base"] ["self", "terms", "parts"] (defScope (inCls (top 25) 0)) := ⟨rfl, rfl, rfl, by decide +kernel, rfl, by decide +kernel, by decide +kernel⟩
theorem s_Form_init (T : TopQ faQ fnQ K mg) {c : C0} {g : Addr} {cdv : Value} {A : Around} {outer : List PySem.Env} {s : Shared} {H : Hp} {E : XK} (hr : Room 4 (A.deeper (envOfC "Form.__init__" (defScope (inCls (top 25) 0)) s.heap.objs.size g cdv))) :
    SSs (cxOf (L2.CX P w) P w K mg base ["self", "terms", "parts", "wrong", "divisor", "coefficient", "base"] "Form.__init__" (defScope (inCls (top 25) 0)) g cdv A outer s H E) c (fun cls d _ H => E cls d H) (defBody (inCls (top 25) 0)) b_Form_init := by
  have sc := sc_Form_init
  have hu := Qd.Room.hu hr
  exact (sss_cons (ss_set (i := 3) sc.nd rfl (by first | exact .inl rfl | exact .inr rfl) (ee_call (ok_wrong_term T) (hr.mono (by decide)) rfl (T.glo 21) (T.keep 22) px_body (ea_cons (ee_var (i := 1) rfl (by first | exact .inl rfl | exact .inr (.inl rfl) | exact .inr (.inr rfl))) ea_nil))) (sss_cons (ss_if (et_ne hu (ee_var (i := 3) rfl (by first | exact .inl rfl | exact .inr (.inl rfl) | exact .inr (.inr rfl))) (ee_neg ee_int)) (sss_one ss_no) sss_nil) (sss_cons (ss_if (ew_of (ew_or (et_not (et_val (ee_call (ok_is_natural T) (hr.mono (by decide)) rfl (T.glo 17) (T.keep 18) px_body (ea_cons (ee_var (i := 2) rfl (by first | exact .inl rfl | exact .inr (.inl rfl) | exact .inr (.inr rfl))) ea_nil)))) (ew_or1 (et_eq hu (ee_var (i := 2) rfl (by first | exact .inl rfl | exact .inr (.inl rfl) | exact .inr (.inr rfl))) ee_int)))) (sss_one ss_no) sss_nil) (sss_cons (ss_set (i := 4) sc.nd rfl (by first | exact .inl rfl | exact .inr rfl) (ee_call (ok_shared_divisor T) (hr.mono (by decide)) rfl (T.glo 26) (T.keep 27) px_body (ea_cons (ee_var (i := 1) rfl (by first | exact .inl rfl | exact .inr (.inl rfl) | exact .inr (.inr rfl))) (ea_cons (ee_var (i := 2) rfl (by first | exact .inl rfl | exact .inr (.inl rfl) | exact .inr (.inr rfl))) ea_nil)))) (sss_cons (ss_fldI (i := 0) (T.glo 28) (T.cls 29) (T.noat 30) rfl (by first | exact .inl rfl | exact .inr (.inl rfl) | exact .inr (.inr rfl)) (ee_tuple rfl (T.free 8) (ea_cons (EE.lcP (ee_lc rfl sc.nd (ei_any (ee_var (i := 1) rfl (by first | exact .inl rfl | exact .inr (.inl rfl) | exact .inr (.inr rfl)))) (own := [("coefficient", 5), ("base", 6)]) (blkOk_by (by kernel_rfl)) (by decide) (fun c s H C cl fp => (eg_tup rfl (egs_cons (eg_name sc.nd rfl (by first | exact .inl rfl | exact .inr rfl)) (egs_cons (eg_name sc.nd rfl (by first | exact .inl rfl | exact .inr rfl)) egs_nil)))) (fun c s H C cl fp => ets_nil) (fun c s H C cl fp => (ee_tup (ea_cons (ee_fdiv (ee_var (i := 5) rfl (by first | exact .inl rfl | exact .inr (.inl rfl) | exact .inr (.inr rfl))) (ee_var (i := 4) rfl (by first | exact .inl rfl | exact .inr (.inl rfl) | exact .inr (.inr rfl)))) (ea_cons (ee_var (i := 6) rfl (by first | exact .inl rfl | exact .inr (.inl rfl) | exact .inr (.inr rfl))) ea_nil)))))) ea_nil))) (sss_one (ss_fldI (i := 0) (T.glo 28) (T.cls 29) (T.noat 31) rfl (by first | exact .inl rfl | exact .inr (.inl rfl) | exact .inr (.inr rfl)) (ee_fdiv (ee_var (i := 2) rfl (by first | exact .inl rfl | exact .inr (.inl rfl) | exact .inr (.inr rfl))) (ee_var (i := 4) rfl (by first | exact .inl rfl | exact .inr (.inl rfl) | exact .inr (.inr rfl)))))))))))
theorem ok_Form_init (T : TopQ faQ fnQ K mg) : FnR P w K mg base (L2.CX P w) 5 (He.ma K (He.ga K "Form") "__init__") (spI K mg "Form" I_Form_init) := by
  obtain ⟨fd, F⟩ := T.dfD 8
  obtain ⟨ds, rv, hb⟩ := F.binds1 (ps := ["self", "terms", "parts"]) 3 1 (by simp) rfl fun T kV doc pm an cdv ct us its h1 h2 => match us, its, h1, h2 with | [_, _, _], [_], _, _ => ⟨_, rfl, rfl⟩
  exact ((fn_initD F sc_Form_init (by decide) fun c cdv A outer s H E hr => s_Form_init T hr).raw hb rv).imp fun vs H Q E h => by rw [show vs ++ List.drop 1 (List.map (He.Dv.v K) [.int 1]) = vs from List.append_nil vs]; exact h
theorem okD1_Form_init (T : TopQ faQ fnQ K mg) : FnR P w K mg base (L2.CX P w) 5 (He.ma K (He.ga K "Form") "__init__") (spI K mg "Form" (dflI I_Form_init [.int 1])) := by
  obtain ⟨fd, F⟩ := T.dfD 8
  obtain ⟨ds, rv, hb⟩ := F.binds1 (ps := ["self", "terms", "parts"]) 2 0 (by simp) rfl fun T kV doc pm an cdv ct us its h1 h2 => match us, its, h1, h2 with | [_, _], [_], _, _ => ⟨_, rfl, rfl⟩
  exact fn_initK (fn_initD F sc_Form_init (by decide) fun c cdv A outer s H E hr => s_Form_init T hr) hb rv fun _ => by first | rfl | exact ⟨_, _, rfl, rfl, rfl⟩ | exact ⟨_, _, rfl, rfl, _, _, rfl, rfl, rfl⟩
/-! _law_sign_of -/
theorem sc_law_sign_of : FnScope ["_law_size"] ["_law_size"] (defScope (top 41)) := ⟨rfl, rfl, rfl, by decide +kernel, rfl, by decide +kernel, by decide +kernel⟩
theorem s_law_sign_of (T : TopQ faQ fnQ K mg) {c : C0} {g : Addr} {cdv : Value} {A : Around} {outer : List PySem.Env} {s : Shared} {H : Hp} {E : XK} (hr : Room 0 (A.deeper (envOfC "_law_sign_of" (defScope (top 41)) s.heap.objs.size g cdv))) (hg : A.guards = some []) :
    SSs (cxOf (L2.CX P w) P w K mg base ["_law_size"] "_law_sign_of" (defScope (top 41)) g cdv A outer s H E) c (fun cls d _ H => E cls d H) (defBody (top 41)) b_law_sign_of := by
  have sc := sc_law_sign_of
  have hu := Qd.Room.hu hr
  exact (sss_one (ss_ret (ee_if (et_eq hu (ee_var (i := 0) rfl (by first | exact .inl rfl | exact .inr (.inl rfl) | exact .inr (.inr rfl))) ee_int) ee_int (ee_if (et_gt (ee_var (i := 0) rfl (by first | exact .inl rfl | exact .inr (.inl rfl) | exact .inr (.inr rfl))) ee_int) ee_int (ee_neg ee_int)))))
theorem ok_law_sign_of (T : TopQ faQ fnQ K mg) : FDG P w K mg base 1 (He.ga K "_law_sign_of") F_law_sign_of := by
  obtain ⟨fd, F⟩ := T.df 9
  exact FDG.of (fn_defG F sc_law_sign_of fun c cdv A outer s H E hr hg => s_law_sign_of T hr hg) (F.binds fun _ _ _ _ _ _ us hl => match us, hl with | [_], _ => rfl)
/-! _law_rules -/
theorem sc_law_rules : FnScope ["_law_sizes", "_law_sums", "_law_size"] ["_law_sizes", "_law_sums"] (defScope (top 42)) := ⟨rfl, rfl, rfl, by decide +kernel, rfl, by decide +kernel, by decide +kernel⟩
theorem s_law_rules (T : TopQ faQ fnQ K mg) {c : C0} {g : Addr} {cdv : Value} {A : Around} {outer : List PySem.Env} {s : Shared} {H : Hp} {E : XK} (hr : Room 0 (A.deeper (envOfC "_law_rules" (defScope (top 42)) s.heap.objs.size g cdv))) (hg : A.guards = some []) :
    SSs (cxOf (L2.CX P w) P w K mg base ["_law_sizes", "_law_sums", "_law_size"] "_law_rules" (defScope (top 42)) g cdv A outer s H E) c (fun cls d _ H => E cls d H) (defBody (top 42)) b_law_rules := by
  have sc := sc_law_rules
  have hu := Qd.Room.hu hr
  exact (sss_cons (ss_if (ew_of (ew_or (et_eq hu (ee_var (i := 1) rfl (by first | exact .inl rfl | exact .inr (.inl rfl) | exact .inr (.inr rfl))) (ee_tup ea_nil)) (ew_or1 (et_eq hu (ee_ix hu (ee_ix hu (ee_var (i := 1) rfl (by first | exact .inl rfl | exact .inr (.inl rfl) | exact .inr (.inr rfl))) ee_int) ee_int) ee_int)))) (sss_one (ss_ret ee_bl)) sss_nil) (sss_one (ss_ret (ee_gt (ee_abs rfl (T.free 23) (ea_cons (ee_ix hu (ee_var (i := 0) rfl (by first | exact .inl rfl | exact .inr (.inl rfl) | exact .inr (.inr rfl))) ee_int) ea_nil)) (ee_sum rfl rfl (T.free 35) (ea_cons (EE.lcP (ee_lc rfl sc.nd (ei_any (ee_sl (ee_var (i := 0) rfl (by first | exact .inl rfl | exact .inr (.inl rfl) | exact .inr (.inr rfl))) (eo_some ee_int) eo_none)) (own := [("_law_size", 2)]) (blkOk_by (by kernel_rfl)) (by decide) (fun c s H C cl fp => (eg_name sc.nd rfl (by first | exact .inl rfl | exact .inr rfl))) (fun c s H C cl fp => ets_nil) (fun c s H C cl fp => (ee_abs rfl (T.free 23) (ea_cons (ee_var (i := 2) rfl (by first | exact .inl rfl | exact .inr (.inl rfl) | exact .inr (.inr rfl))) ea_nil))))) ea_nil))))))
theorem ok_law_rules (T : TopQ faQ fnQ K mg) : FDG P w K mg base 1 (He.ga K "_law_rules") F_law_rules := by
  obtain ⟨fd, F⟩ := T.df 10
  exact FDG.of (fn_defG F sc_law_rules fun c cdv A outer s H E hr hg => s_law_rules T hr hg) (F.binds fun _ _ _ _ _ _ us hl => match us, hl with | [_, _], _ => rfl)
/-! _law_turns -/
theorem sc_law_turns : FnScope ["_law_sums", "_law_m", "_law_sizes", "_law_found", "_law_sign", "_law_size", "_law_root", "_law_pair"] ["_law_sums"] (defScope (top 43)) := ⟨rfl, rfl, rfl, by decide +kernel, rfl, by decide +kernel, by decide +kernel⟩
theorem s_law_turns (T : TopQ faQ fnQ K mg) {c : C0} {g : Addr} {cdv : Value} {A : Around} {outer : List PySem.Env} {s : Shared} {H : Hp} {E : XK} (hr : Room 1 (A.deeper (envOfC "_law_turns" (defScope (top 43)) s.heap.objs.size g cdv))) (hg : A.guards = some []) :
    SSs (cxOf (L2.CX P w) P w K mg base ["_law_sums", "_law_m", "_law_sizes", "_law_found", "_law_sign", "_law_size", "_law_root", "_law_pair"] "_law_turns" (defScope (top 43)) g cdv A outer s H E) c (fun cls d _ H => E cls d H) (defBody (top 43)) b_law_turns := by
  have sc := sc_law_turns
  have hu := Qd.Room.hu hr
  exact (sss_cons (ss_par3 (i := 2) (j := 3) (l := 1) rfl sc.nd rfl rfl rfl (by decide) (by decide) (by decide) rfl rfl rfl (EE.lcP (ee_lc rfl sc.nd (ei_any (ee_var (i := 0) rfl (by first | exact .inl rfl | exact .inr (.inl rfl) | exact .inr (.inr rfl)))) (own := [("_law_size", 5), ("_law_root", 6)]) (blkOk_by (by kernel_rfl)) (by decide) (fun c s H C cl fp => (eg_tup rfl (egs_cons (eg_name sc.nd rfl (by first | exact .inl rfl | exact .inr rfl)) (egs_cons (eg_name sc.nd rfl (by first | exact .inl rfl | exact .inr rfl)) egs_nil)))) (fun c s H C cl fp => ets_nil) (fun c s H C cl fp => (ee_var (i := 5) rfl (by first | exact .inl rfl | exact .inr (.inl rfl) | exact .inr (.inr rfl)))))) (ev_lst ea_nil) (fun c => ee_int) rfl) (sss_cons (ss_for [4, 7] own_body rfl (ei_range1 rfl (T.free 3) (ea_cons ee_int ea_nil)) (eg_name sc.nd rfl (by first | exact .inl rfl | exact .inr rfl)) (sss_cons (ss_set (i := 4) sc.nd rfl (by first | exact .inl rfl | exact .inr rfl) (ee_callG (ok_law_sign_of T) (hr.mono (by decide)) hg rfl (T.glo 33) (T.keep 34) px_body (ea_cons (ee_sum rfl rfl (T.free 35) (ea_cons (ee_var (i := 2) rfl (by first | exact .inl rfl | exact .inr (.inl rfl) | exact .inr (.inr rfl))) ea_nil)) ea_nil))) (sss_cons (ss_if (ew_of (ew_or (et_eqN (i := 3) hu rfl (by first | exact .inl rfl | exact .inr (.inl rfl) | exact .inr (.inr rfl)) (ee_lst ea_nil)) (ew_or1 (et_ne hu (ee_ix hu (ee_ixN (i := 3) hu rfl (by first | exact .inl rfl | exact .inr (.inl rfl) | exact .inr (.inr rfl)) (ee_neg ee_int)) ee_int) (ee_var (i := 4) rfl (by first | exact .inl rfl | exact .inr (.inl rfl) | exact .inr (.inr rfl))))))) (sss_one (ss_drop (ee_apN (i := 3) rfl (by first | exact .inl rfl | exact .inr (.inl rfl) | exact .inr (.inr rfl)) (ea_cons (ee_tup (ea_cons (ee_var (i := 1) rfl (by first | exact .inl rfl | exact .inr (.inl rfl) | exact .inr (.inr rfl))) (ea_cons (ee_var (i := 4) rfl (by first | exact .inl rfl | exact .inr (.inl rfl) | exact .inr (.inr rfl))) ea_nil))) ea_nil)))) sss_nil) (sss_cons (ss_if (ew_of (ew_and (et_gt (ee_var (i := 1) rfl (by first | exact .inl rfl | exact .inr (.inl rfl) | exact .inr (.inr rfl))) ee_int) (ew_and1 (et_val (ee_callG (ok_law_rules T) (hr.mono (by decide)) hg rfl (T.glo 36) (T.keep 37) px_body (ea_cons (ee_var (i := 2) rfl (by first | exact .inl rfl | exact .inr (.inl rfl) | exact .inr (.inr rfl))) (ea_cons (ee_var (i := 0) rfl (by first | exact .inl rfl | exact .inr (.inl rfl) | exact .inr (.inr rfl))) ea_nil))))))) (sss_one ss_brk) sss_nil) (sss_one (SS.setLcFP (ss_setLcF (i := 2) rfl rfl (sw_true rfl rfl rfl rfl) rfl sc.nd (ei_zipM rfl (T.free 38) (ea_cons (ee_var (i := 2) rfl (by first | exact .inl rfl | exact .inr (.inl rfl) | exact .inr (.inr rfl))) (ea_cons (ee_var (i := 0) rfl (by first | exact .inl rfl | exact .inr (.inl rfl) | exact .inr (.inr rfl))) ea_nil))) (own := [("_law_size", 5), ("_law_pair", 7)]) (blkOk_by (by kernel_rfl)) (by decide) (fun c s H C cl fp => (eg_tup rfl (egs_cons (eg_name sc.nd rfl (by first | exact .inl rfl | exact .inr rfl)) (egs_cons (eg_name sc.nd rfl (by first | exact .inl rfl | exact .inr rfl)) egs_nil)))) (fun c s H C cl fp => ets_nil) (fun c s H C cl fp => (ee_mul (ee_var (i := 5) rfl (by first | exact .inl rfl | exact .inr (.inl rfl) | exact .inr (.inr rfl))) (ee_ix hu (ee_var (i := 7) rfl (by first | exact .inl rfl | exact .inr (.inl rfl) | exact .inr (.inr rfl))) ee_int)))))))))) (sss_one (ss_ret (ee_tup (ea_cons (ee_tupleN (i := 3) rfl (T.free 8) rfl (by first | exact .inl rfl | exact .inr (.inl rfl) | exact .inr (.inr rfl))) (ea_cons (ee_var (i := 1) rfl (by first | exact .inl rfl | exact .inr (.inl rfl) | exact .inr (.inr rfl))) ea_nil)))))))
theorem ok_law_turns (T : TopQ faQ fnQ K mg) : FDG P w K mg base 2 (He.ga K "_law_turns") F_law_turns := by
  obtain ⟨fd, F⟩ := T.df 11
  exact FDG.of (fn_defG F sc_law_turns fun c cdv A outer s H E hr hg => s_law_turns T hr hg) (F.binds fun _ _ _ _ _ _ us hl => match us, hl with | [_], _ => rfl)
/-! Form.terms -/
theorem sc_Form_terms : FnScope ["self"] ["self"] (defScope (inCls (top 25) 2)) := ⟨rfl, rfl, rfl, by decide +kernel, rfl, by decide +kernel, by decide +kernel⟩
theorem s_Form_terms (T : TopQ faQ fnQ K mg) {c : C0} {g : Addr} {cdv : Value} {A : Around} {outer : List PySem.Env} {s : Shared} {H : Hp} {E : XK} (hr : Room 0 (A.deeper (envOfC "Form.terms" (defScope (inCls (top 25) 2)) s.heap.objs.size g cdv))) :
    SSs (cxOf (L2.CX P w) P w K mg base ["self"] "Form.terms" (defScope (inCls (top 25) 2)) g cdv A outer s H E) c (fun cls d _ H => E cls d H) (defBody (inCls (top 25) 2)) b_Form_terms := by
  have sc := sc_Form_terms
  have hu := Qd.Room.hu hr
  exact (sss_one (ss_ret (ee_fld (T.glo 28) (T.cls 29) (T.noat 30) (ee_var (i := 0) rfl (by first | exact .inl rfl | exact .inr (.inl rfl) | exact .inr (.inr rfl))))))
theorem ok_Form_terms (T : TopQ faQ fnQ K mg) : PropF P w K mg base 1 (He5.wf K (He.ga K "Form") "property" "terms") F_Form_terms := by
  obtain ⟨fd, F⟩ := T.df 12
  exact ⟨fd, _, fn_def F sc_Form_terms fun c cdv A outer s H E hr => s_Form_terms T hr, F.binds fun _ _ _ _ _ _ us hl => match us, hl with | [_], _ => rfl⟩
/-! sign_of -/
theorem sc_sign_of : FnScope ["number"] ["number"] (defScope (top 24)) := ⟨rfl, rfl, rfl, by decide +kernel, rfl, by decide +kernel, by decide +kernel⟩
theorem s_sign_of (T : TopQ faQ fnQ K mg) {c : C0} {g : Addr} {cdv : Value} {A : Around} {outer : List PySem.Env} {s : Shared} {H : Hp} {E : XK} (hr : Room 0 (A.deeper (envOfC "sign_of" (defScope (top 24)) s.heap.objs.size g cdv))) :
    SSs (cxOf (L2.CX P w) P w K mg base ["number"] "sign_of" (defScope (top 24)) g cdv A outer s H E) c (fun cls d _ H => E cls d H) (defBody (top 24)) b_sign_of := by
  have sc := sc_sign_of
  have hu := Qd.Room.hu hr
  exact (sss_one (ss_ret (ee_if (et_eq hu (ee_var (i := 0) rfl (by first | exact .inl rfl | exact .inr (.inl rfl) | exact .inr (.inr rfl))) ee_int) ee_int (ee_if (et_gt (ee_var (i := 0) rfl (by first | exact .inl rfl | exact .inr (.inl rfl) | exact .inr (.inr rfl))) ee_int) ee_int (ee_neg ee_int)))))
theorem ok_sign_of (T : TopQ faQ fnQ K mg) : FD P w K mg base 1 (He.ga K "sign_of") F_sign_of := by
  obtain ⟨fd, F⟩ := T.df 13
  exact FD.of (fn_def F sc_sign_of fun c cdv A outer s H E hr => s_sign_of T hr) (F.binds fun _ _ _ _ _ _ us hl => match us, hl with | [_], _ => rfl)
/-! is_ruled -/
theorem sc_is_ruled : FnScope ["terms", "sizes", "n", "size"] ["terms", "sizes", "n"] (defScope (top 28)) := ⟨rfl, rfl, rfl, by decide +kernel, rfl, by decide +kernel, by decide +kernel⟩
theorem s_is_ruled (T : TopQ faQ fnQ K mg) {c : C0} {g : Addr} {cdv : Value} {A : Around} {outer : List PySem.Env} {s : Shared} {H : Hp} {E : XK} (hr : Room 0 (A.deeper (envOfC "is_ruled" (defScope (top 28)) s.heap.objs.size g cdv))) :
    SSs (cxOf (L2.CX P w) P w K mg base ["terms", "sizes", "n", "size"] "is_ruled" (defScope (top 28)) g cdv A outer s H E) c (fun cls d _ H => E cls d H) (defBody (top 28)) b_is_ruled := by
  have sc := sc_is_ruled
  have hu := Qd.Room.hu hr
  exact (sss_cons (ss_if (et_eq hu (ee_var (i := 0) rfl (by first | exact .inl rfl | exact .inr (.inl rfl) | exact .inr (.inr rfl))) (ee_tup ea_nil)) (sss_one (ss_ret ee_bl)) sss_nil) (sss_cons (ss_if (et_eq hu (ee_ix hu (ee_ix hu (ee_var (i := 0) rfl (by first | exact .inl rfl | exact .inr (.inl rfl) | exact .inr (.inr rfl))) ee_int) ee_int) ee_int) (sss_one (ss_ret (ee_gt (ee_var (i := 2) rfl (by first | exact .inl rfl | exact .inr (.inl rfl) | exact .inr (.inr rfl))) ee_int))) sss_nil) (sss_one (ss_ret (ee_gt (ee_abs rfl (T.free 23) (ea_cons (ee_ix hu (ee_var (i := 1) rfl (by first | exact .inl rfl | exact .inr (.inl rfl) | exact .inr (.inr rfl))) ee_int) ea_nil)) (ee_sum rfl rfl (T.free 35) (ea_cons (EE.lcP (ee_lc rfl sc.nd (ei_any (ee_sl (ee_var (i := 1) rfl (by first | exact .inl rfl | exact .inr (.inl rfl) | exact .inr (.inr rfl))) (eo_some ee_int) eo_none)) (own := [("size", 3)]) (blkOk_by (by kernel_rfl)) (by decide) (fun c s H C cl fp => (eg_name sc.nd rfl (by first | exact .inl rfl | exact .inr rfl))) (fun c s H C cl fp => ets_nil) (fun c s H C cl fp => (ee_abs rfl (T.free 23) (ea_cons (ee_var (i := 3) rfl (by first | exact .inl rfl | exact .inr (.inl rfl) | exact .inr (.inr rfl))) ea_nil))))) ea_nil)))))))
theorem ok_is_ruled (T : TopQ faQ fnQ K mg) : FD P w K mg base 1 (He.ga K "is_ruled") F_is_ruled := by
  obtain ⟨fd, F⟩ := T.df 14
  exact FD.of (fn_def F sc_is_ruled fun c cdv A outer s H E hr => s_is_ruled T hr) (F.binds fun _ _ _ _ _ _ us hl => match us, hl with | [_, _, _], _ => rfl)
/-! Form.turns -/
theorem sc_Form_turns : FnScope ["self", "sizes", "found", "n", "coefficient", "base", "size"] ["self"] (defScope (inCls (top 25) 5)) := ⟨rfl, rfl, rfl, by decide +kernel, rfl, by decide +kernel, by decide +kernel⟩
theorem s_Form_turns (T : TopQ faQ fnQ K mg) {c : C0} {g : Addr} {cdv : Value} {A : Around} {outer : List PySem.Env} {s : Shared} {H : Hp} {E : XK} (hr : Room 1 (A.deeper (envOfC "Form.turns" (defScope (inCls (top 25) 5)) s.heap.objs.size g cdv))) :
    SSs (cxOf (L2.CX P w) P w K mg base ["self", "sizes", "found", "n", "coefficient", "base", "size"] "Form.turns" (defScope (inCls (top 25) 5)) g cdv A outer s H E) c (fun cls d _ H => E cls d H) (defBody (inCls (top 25) 5)) b_Form_turns := by
  have sc := sc_Form_turns
  have hu := Qd.Room.hu hr
  exact (sss_cons (SS.setLcFP (ss_setLcF (i := 1) rfl rfl (sw_true rfl rfl rfl rfl) rfl sc.nd (ei_any (ee_fld (T.glo 28) (T.cls 29) (T.noat 30) (ee_var (i := 0) rfl (by first | exact .inl rfl | exact .inr (.inl rfl) | exact .inr (.inr rfl))))) (own := [("coefficient", 4), ("base", 5)]) (blkOk_by (by kernel_rfl)) (by decide) (fun c s H C cl fp => (eg_tup rfl (egs_cons (eg_name sc.nd rfl (by first | exact .inl rfl | exact .inr rfl)) (egs_cons (eg_name sc.nd rfl (by first | exact .inl rfl | exact .inr rfl)) egs_nil)))) (fun c s H C cl fp => ets_nil) (fun c s H C cl fp => (ee_var (i := 4) rfl (by first | exact .inl rfl | exact .inr (.inl rfl) | exact .inr (.inr rfl)))))) (sss_cons (ss_par (i := 2) (j := 3) rfl sc.nd rfl rfl (by decide) rfl rfl (ev_lst (ea_cons (ee_tup (ea_cons ee_int (ea_cons (ee_call (ok_sign_of T) (hr.mono (by decide)) rfl (T.glo 42) (T.keep 43) px_body (ea_cons (ee_sum rfl rfl (T.free 35) (ea_cons (ee_var (i := 1) rfl (by first | exact .inl rfl | exact .inr (.inl rfl) | exact .inr (.inr rfl))) ea_nil)) ea_nil)) ea_nil))) ea_nil)) (fun c => (ev_val ee_int)) rfl) (sss_cons (ss_while own_body (et_not (et_val (ee_call (ok_is_ruled T) (hr.mono (by decide)) rfl (T.glo 44) (T.keep 45) px_body (ea_cons (ee_fld (T.glo 28) (T.cls 29) (T.noat 30) (ee_var (i := 0) rfl (by first | exact .inl rfl | exact .inr (.inl rfl) | exact .inr (.inr rfl)))) (ea_cons (ee_var (i := 1) rfl (by first | exact .inl rfl | exact .inr (.inl rfl) | exact .inr (.inr rfl))) (ea_cons (ee_var (i := 3) rfl (by first | exact .inl rfl | exact .inr (.inl rfl) | exact .inr (.inr rfl))) ea_nil)))))) (sss_cons (SS.setLcFP (ss_setLcF (i := 1) rfl rfl (sw_true rfl rfl rfl rfl) rfl sc.nd (ei_zipM rfl (T.free 38) (ea_cons (ee_var (i := 1) rfl (by first | exact .inl rfl | exact .inr (.inl rfl) | exact .inr (.inr rfl))) (ea_cons (ee_fld (T.glo 28) (T.cls 29) (T.noat 30) (ee_var (i := 0) rfl (by first | exact .inl rfl | exact .inr (.inl rfl) | exact .inr (.inr rfl)))) ea_nil))) (own := [("size", 6), ("coefficient", 4), ("base", 5)]) (blkOk_by (by kernel_rfl)) (by decide) (fun c s H C cl fp => (eg_tup rfl (egs_cons (eg_name sc.nd rfl (by first | exact .inl rfl | exact .inr rfl)) (egs_cons (eg_tup rfl (egs_cons (eg_name sc.nd rfl (by first | exact .inl rfl | exact .inr rfl)) (egs_cons (eg_name sc.nd rfl (by first | exact .inl rfl | exact .inr rfl)) egs_nil))) egs_nil)))) (fun c s H C cl fp => ets_nil) (fun c s H C cl fp => (ee_mul (ee_var (i := 6) rfl (by first | exact .inl rfl | exact .inr (.inl rfl) | exact .inr (.inr rfl))) (ee_var (i := 5) rfl (by first | exact .inl rfl | exact .inr (.inl rfl) | exact .inr (.inr rfl))))))) (sss_cons (ss_set (i := 3) sc.nd rfl (by first | exact .inl rfl | exact .inr rfl) (ee_add (ee_var (i := 3) rfl (by first | exact .inl rfl | exact .inr (.inl rfl) | exact .inr (.inr rfl))) ee_int)) (sss_one (ss_if (et_ne hu (ee_call (ok_sign_of T) (hr.mono (by decide)) rfl (T.glo 42) (T.keep 43) px_body (ea_cons (ee_sum rfl rfl (T.free 35) (ea_cons (ee_var (i := 1) rfl (by first | exact .inl rfl | exact .inr (.inl rfl) | exact .inr (.inr rfl))) ea_nil)) ea_nil)) (ee_ix hu (ee_ixN (i := 2) hu rfl (by first | exact .inl rfl | exact .inr (.inl rfl) | exact .inr (.inr rfl)) (ee_neg ee_int)) ee_int)) (sss_one (ss_drop (ee_apN (i := 2) rfl (by first | exact .inl rfl | exact .inr (.inl rfl) | exact .inr (.inr rfl)) (ea_cons (ee_tup (ea_cons (ee_var (i := 3) rfl (by first | exact .inl rfl | exact .inr (.inl rfl) | exact .inr (.inr rfl))) (ea_cons (ee_call (ok_sign_of T) (hr.mono (by decide)) rfl (T.glo 42) (T.keep 43) px_body (ea_cons (ee_sum rfl rfl (T.free 35) (ea_cons (ee_var (i := 1) rfl (by first | exact .inl rfl | exact .inr (.inl rfl) | exact .inr (.inr rfl))) ea_nil)) ea_nil)) ea_nil))) ea_nil)))) sss_nil))))) (sss_one (ss_ret (ee_tupleN (i := 2) rfl (T.free 8) rfl (by first | exact .inl rfl | exact .inr (.inl rfl) | exact .inr (.inr rfl))))))))
theorem ok_Form_turns (T : TopQ faQ fnQ K mg) : FD P w K mg base 2 (He.ma K (He.ga K "Form") "turns") F_Form_turns := by
  obtain ⟨fd, F⟩ := T.df 15
  exact FD.of (fn_def F sc_Form_turns fun c cdv A outer s H E hr => s_Form_turns T hr) (F.binds fun _ _ _ _ _ _ us hl => match us, hl with | [_], _ => rfl)
/-! form_of -/
theorem sc_form_of : FnScope ["fractions", "parts", "terms", "base", "numerator", "denominator", "coefficient", "one", "over", "under"] ["fractions"] (defScope (top 30)) := ⟨rfl, rfl, rfl, by decide +kernel, rfl, by decide +kernel, by decide +kernel⟩
theorem s_form_of (T : TopQ faQ fnQ K mg) {c : C0} {g : Addr} {cdv : Value} {A : Around} {outer : List PySem.Env} {s : Shared} {H : Hp} {E : XK} (hr : Room 6 (A.deeper (envOfC "form_of" (defScope (top 30)) s.heap.objs.size g cdv))) :
    SSs (cxOf (L2.CX P w) P w K mg base ["fractions", "parts", "terms", "base", "numerator", "denominator", "coefficient", "one", "over", "under"] "form_of" (defScope (top 30)) g cdv A outer s H E) c (fun cls d _ H => E cls d H) (defBody (top 30)) b_form_of := by
  have sc := sc_form_of
  have hu := Qd.Room.hu hr
  exact (sss_cons (ss_set (i := 1) sc.nd rfl (by first | exact .inl rfl | exact .inr rfl) ee_int) (sss_cons (ss_for [4, 5] own_body rfl (ei_any (ee_var (i := 0) rfl (by first | exact .inl rfl | exact .inr (.inl rfl) | exact .inr (.inr rfl)))) (eg_tup rfl (egs_cons (eg_name sc.nd rfl (by first | exact .inl rfl | exact .inr rfl)) (egs_cons (eg_name sc.nd rfl (by first | exact .inl rfl | exact .inr rfl)) (egs_cons (eg_name sc.nd rfl (by first | exact .inl rfl | exact .inr rfl)) egs_nil)))) (sss_one (ss_set (i := 1) sc.nd rfl (by first | exact .inl rfl | exact .inr rfl) (ee_mul (ee_fdiv (ee_var (i := 1) rfl (by first | exact .inl rfl | exact .inr (.inl rfl) | exact .inr (.inr rfl))) (ee_call (ok_greatest_divisor T) (hr.mono (by decide)) rfl (T.glo 24) (T.keep 25) px_body (ea_cons (ee_var (i := 1) rfl (by first | exact .inl rfl | exact .inr (.inl rfl) | exact .inr (.inr rfl))) (ea_cons (ee_var (i := 5) rfl (by first | exact .inl rfl | exact .inr (.inl rfl) | exact .inr (.inr rfl))) ea_nil)))) (ee_abs rfl (T.free 23) (ea_cons (ee_var (i := 5) rfl (by first | exact .inl rfl | exact .inr (.inl rfl) | exact .inr (.inr rfl))) ea_nil)))))) (sss_cons (ss_setV (i := 2) sc.nd rfl (by first | exact .inl rfl | exact .inr rfl) (ev_lst ea_nil)) (sss_cons (ss_for [6, 7, 8, 9] own_body rfl (ei_range3 rfl (T.free 3) (ea_cons (ee_gint rfl (T.int 16)) (ea_cons (ee_neg ee_int) (ea_cons (ee_neg ee_int) ea_nil)))) (eg_name sc.nd rfl (by first | exact .inl rfl | exact .inr rfl)) (sss_cons (ss_set (i := 6) sc.nd rfl (by first | exact .inl rfl | exact .inr rfl) (ee_sum rfl rfl (T.free 35) (ea_cons (EE.lcP (ee_lc rfl sc.nd (ei_any (ee_var (i := 0) rfl (by first | exact .inl rfl | exact .inr (.inl rfl) | exact .inr (.inr rfl)))) (own := [("one", 7), ("over", 8), ("under", 9)]) (blkOk_by (by kernel_rfl)) (by decide) (fun c s H C cl fp => (eg_tup rfl (egs_cons (eg_name sc.nd rfl (by first | exact .inl rfl | exact .inr rfl)) (egs_cons (eg_name sc.nd rfl (by first | exact .inl rfl | exact .inr rfl)) (egs_cons (eg_name sc.nd rfl (by first | exact .inl rfl | exact .inr rfl)) egs_nil))))) (fun c s H C cl fp => (ets_one (et_eq hu (ee_var (i := 7) rfl (by first | exact .inl rfl | exact .inr (.inl rfl) | exact .inr (.inr rfl))) (ee_var (i := 3) rfl (by first | exact .inl rfl | exact .inr (.inl rfl) | exact .inr (.inr rfl)))))) (fun c s H C cl fp => (ee_mul (ee_var (i := 8) rfl (by first | exact .inl rfl | exact .inr (.inl rfl) | exact .inr (.inr rfl))) (ee_fdiv (ee_var (i := 1) rfl (by first | exact .inl rfl | exact .inr (.inl rfl) | exact .inr (.inr rfl))) (ee_var (i := 9) rfl (by first | exact .inl rfl | exact .inr (.inl rfl) | exact .inr (.inr rfl)))))))) ea_nil))) (sss_one (ss_if (et_ne hu (ee_var (i := 6) rfl (by first | exact .inl rfl | exact .inr (.inl rfl) | exact .inr (.inr rfl))) ee_int) (sss_one (ss_drop (ee_apN (i := 2) rfl (by first | exact .inl rfl | exact .inr (.inl rfl) | exact .inr (.inr rfl)) (ea_cons (ee_tup (ea_cons (ee_var (i := 6) rfl (by first | exact .inl rfl | exact .inr (.inl rfl) | exact .inr (.inr rfl))) (ea_cons (ee_var (i := 3) rfl (by first | exact .inl rfl | exact .inr (.inl rfl) | exact .inr (.inr rfl))) ea_nil))) ea_nil)))) sss_nil)))) (sss_one (ss_ret (ee_make (T.mkr 32) (ok_Form_init T) (hr.mono (by decide)) rfl (T.glo 28) px_body (ea_cons (ee_tupleN (i := 2) rfl (T.free 8) rfl (by first | exact .inl rfl | exact .inr (.inl rfl) | exact .inr (.inr rfl))) (ea_cons (ee_var (i := 1) rfl (by first | exact .inl rfl | exact .inr (.inl rfl) | exact .inr (.inr rfl))) ea_nil)))))))))
theorem ok_form_of (T : TopQ faQ fnQ K mg) : FD P w K mg base 7 (He.ga K "form_of") F_form_of := by
  obtain ⟨fd, F⟩ := T.df 16
  exact FD.of (fn_def F sc_form_of fun c cdv A outer s H E hr => s_form_of T hr) (F.binds fun _ _ _ _ _ _ us hl => match us, hl with | [_], _ => rfl)
/-! Form.__neg__ -/
theorem sc_Form_neg : FnScope ["self", "coefficient", "base"] ["self"] (defScope (inCls (top 25) 9)) := ⟨rfl, rfl, rfl, by decide +kernel, rfl, by decide +kernel, by decide +kernel⟩
theorem s_Form_neg (T : TopQ faQ fnQ K mg) {c : C0} {g : Addr} {cdv : Value} {A : Around} {outer : List PySem.Env} {s : Shared} {H : Hp} {E : XK} (hr : Room 7 (A.deeper (envOfC "Form.__neg__" (defScope (inCls (top 25) 9)) s.heap.objs.size g cdv))) :
    SSs (cxOf (L2.CX P w) P w K mg base ["self", "coefficient", "base"] "Form.__neg__" (defScope (inCls (top 25) 9)) g cdv A outer s H E) c (fun cls d _ H => E cls d H) (defBody (inCls (top 25) 9)) b_Form_neg := by
  have sc := sc_Form_neg
  have hu := Qd.Room.hu hr
  exact (sss_one (ss_ret (ee_call (ok_form_of T) (hr.mono (by decide)) rfl (T.glo 47) (T.keep 48) px_body (ea_cons (EE.lcP (ee_lc rfl sc.nd (ei_any (ee_fld (T.glo 28) (T.cls 29) (T.noat 30) (ee_var (i := 0) rfl (by first | exact .inl rfl | exact .inr (.inl rfl) | exact .inr (.inr rfl))))) (own := [("coefficient", 1), ("base", 2)]) (blkOk_by (by kernel_rfl)) (by decide) (fun c s H C cl fp => (eg_tup rfl (egs_cons (eg_name sc.nd rfl (by first | exact .inl rfl | exact .inr rfl)) (egs_cons (eg_name sc.nd rfl (by first | exact .inl rfl | exact .inr rfl)) egs_nil)))) (fun c s H C cl fp => ets_nil) (fun c s H C cl fp => (ee_tup (ea_cons (ee_var (i := 2) rfl (by first | exact .inl rfl | exact .inr (.inl rfl) | exact .inr (.inr rfl))) (ea_cons (ee_neg (ee_var (i := 1) rfl (by first | exact .inl rfl | exact .inr (.inl rfl) | exact .inr (.inr rfl)))) (ea_cons (ee_fld (T.glo 28) (T.cls 29) (T.noat 31) (ee_var (i := 0) rfl (by first | exact .inl rfl | exact .inr (.inl rfl) | exact .inr (.inr rfl)))) ea_nil))))))) ea_nil))))
theorem ok_Form_neg (T : TopQ faQ fnQ K mg) : FD P w K mg base 8 (He.ma K (He.ga K "Form") "__neg__") F_Form_neg := by
  obtain ⟨fd, F⟩ := T.df 17
  exact FD.of (fn_def F sc_Form_neg fun c cdv A outer s H E hr => s_Form_neg T hr) (F.binds fun _ _ _ _ _ _ us hl => match us, hl with | [_], _ => rfl)
/-! _law_power -/
theorem sc_law_power : FnScope ["_law_base", "_law_n", "_law_found", "_law_turn"] ["_law_base", "_law_n"] (defScope (top 38)) := ⟨rfl, rfl, rfl, by decide +kernel, rfl, by decide +kernel, by decide +kernel⟩
theorem s_law_power (T : TopQ faQ fnQ K mg) {c : C0} {g : Addr} {cdv : Value} {A : Around} {outer : List PySem.Env} {s : Shared} {H : Hp} {E : XK} (hr : Room 0 (A.deeper (envOfC "_law_power" (defScope (top 38)) s.heap.objs.size g cdv))) (hg : A.guards = some []) :
    SSs (cxOf (L2.CX P w) P w K mg base ["_law_base", "_law_n", "_law_found", "_law_turn"] "_law_power" (defScope (top 38)) g cdv A outer s H E) c (fun cls d _ H => E cls d H) (defBody (top 38)) b_law_power := by
  have sc := sc_law_power
  have hu := Qd.Room.hu hr
  exact (sss_cons (ss_set (i := 2) sc.nd rfl (by first | exact .inl rfl | exact .inr rfl) ee_int) (sss_cons (ss_for [3] own_body rfl (ei_range1 rfl (T.free 3) (ea_cons (ee_var (i := 1) rfl (by first | exact .inl rfl | exact .inr (.inl rfl) | exact .inr (.inr rfl))) ea_nil)) (eg_name sc.nd rfl (by first | exact .inl rfl | exact .inr rfl)) (sss_one (ss_set (i := 2) sc.nd rfl (by first | exact .inl rfl | exact .inr rfl) (ee_mul (ee_var (i := 2) rfl (by first | exact .inl rfl | exact .inr (.inl rfl) | exact .inr (.inr rfl))) (ee_var (i := 0) rfl (by first | exact .inl rfl | exact .inr (.inl rfl) | exact .inr (.inr rfl))))))) (sss_one (ss_ret (ee_var (i := 2) rfl (by first | exact .inl rfl | exact .inr (.inl rfl) | exact .inr (.inr rfl)))))))
theorem ok_law_power (T : TopQ faQ fnQ K mg) : FDG P w K mg base 1 (He.ga K "_law_power") F_law_power := by
  obtain ⟨fd, F⟩ := T.df 18
  exact FDG.of (fn_defG F sc_law_power fun c cdv A outer s H E hr hg => s_law_power T hr hg) (F.binds fun _ _ _ _ _ _ us hl => match us, hl with | [_, _], _ => rfl)
/-! _law_sum -/
theorem sc_law_sum : FnScope ["_law_terms_here", "_law_n", "_law_coefficient", "_law_base"] ["_law_terms_here", "_law_n"] (defScope (top 39)) := ⟨rfl, rfl, rfl, by decide +kernel, rfl, by decide +kernel, by decide +kernel⟩
theorem s_law_sum (T : TopQ faQ fnQ K mg) {c : C0} {g : Addr} {cdv : Value} {A : Around} {outer : List PySem.Env} {s : Shared} {H : Hp} {E : XK} (hr : Room 1 (A.deeper (envOfC "_law_sum" (defScope (top 39)) s.heap.objs.size g cdv))) (hg : A.guards = some []) :
    SSs (cxOf (L2.CX P w) P w K mg base ["_law_terms_here", "_law_n", "_law_coefficient", "_law_base"] "_law_sum" (defScope (top 39)) g cdv A outer s H E) c (fun cls d _ H => E cls d H) (defBody (top 39)) b_law_sum := by
  have sc := sc_law_sum
  have hu := Qd.Room.hu hr
  exact (sss_one (ss_ret (ee_sum rfl rfl (T.free 35) (ea_cons (EE.lcP (ee_lc rfl sc.nd (ei_any (ee_var (i := 0) rfl (by first | exact .inl rfl | exact .inr (.inl rfl) | exact .inr (.inr rfl)))) (own := [("_law_coefficient", 2), ("_law_base", 3)]) (blkOk_by (by kernel_rfl)) (by decide) (fun c s H C cl fp => (eg_tup rfl (egs_cons (eg_name sc.nd rfl (by first | exact .inl rfl | exact .inr rfl)) (egs_cons (eg_name sc.nd rfl (by first | exact .inl rfl | exact .inr rfl)) egs_nil)))) (fun c s H C cl fp => ets_nil) (fun c s H C cl fp => (ee_mul (ee_var (i := 2) rfl (by first | exact .inl rfl | exact .inr (.inl rfl) | exact .inr (.inr rfl))) (ee_callG (ok_law_power T) (hr.mono (by decide)) hg rfl (T.glo 51) (T.keep 52) px_none (ea_cons (ee_var (i := 3) rfl (by first | exact .inl rfl | exact .inr (.inl rfl) | exact .inr (.inr rfl))) (ea_cons (ee_var (i := 1) rfl (by first | exact .inl rfl | exact .inr (.inl rfl) | exact .inr (.inr rfl))) ea_nil))))))) ea_nil))))
theorem ok_law_sum (T : TopQ faQ fnQ K mg) : FDG P w K mg base 2 (He.ga K "_law_sum") F_law_sum := by
  obtain ⟨fd, F⟩ := T.df 19
  exact FDG.of (fn_defG F sc_law_sum fun c cdv A outer s H E hr hg => s_law_sum T hr hg) (F.binds fun _ _ _ _ _ _ us hl => match us, hl with | [_, _], _ => rfl)
/-! _law_right -/
theorem sc_law_right : FnScope ["_law_purse_here", "_law_tale", "_law_m", "_law_late", "_law_sums", "_law_share", "_law_small", "_law_due", "_law_last", "_law_one", "_law_size", "_law_root", "_law_sign"] ["_law_purse_here"] (defScope (top 44)) := ⟨rfl, rfl, rfl, by decide +kernel, rfl, by decide +kernel, by decide +kernel⟩
theorem s_law_right (T : TopQ faQ fnQ K mg) {c : C0} {g : Addr} {cdv : Value} {A : Around} {outer : List PySem.Env} {s : Shared} {H : Hp} {E : XK} (hr : Room 8 (A.deeper (envOfC "_law_right" (defScope (top 44)) s.heap.objs.size g cdv))) (hg : A.guards = some []) :
    SSs (cxOf (L2.CX P w) P w K mg base ["_law_purse_here", "_law_tale", "_law_m", "_law_late", "_law_sums", "_law_share", "_law_small", "_law_due", "_law_last", "_law_one", "_law_size", "_law_root", "_law_sign"] "_law_right" (defScope (top 44)) g cdv A outer s H E) c (fun cls d _ H => E cls d H) (defBody (top 44)) b_law_right := by
  have sc := sc_law_right
  have hu := Qd.Room.hu hr
  exact (sss_cons (ss_asg (ee_callG (ok_law_terms T) (hr.mono (by decide)) hg rfl (T.glo 9) (T.keep 10) px_body (ea_cons (ee_var (i := 0) rfl (by first | exact .inl rfl | exact .inr (.inl rfl) | exact .inr (.inr rfl))) (ea_cons ee_int ea_nil))) (eh_tup rfl (ehs_cons (eh_name sc.nd rfl (by first | exact .inl rfl | exact .inr rfl)) (ehs_cons (eh_name sc.nd rfl (by first | exact .inl rfl | exact .inr rfl)) ehs_nil)))) (sss_cons (ss_if (et_eq hu (ee_callG (ok_law_draw T) (hr.mono (by decide)) hg rfl (T.glo 6) (T.keep 7) px_body (ea_cons (ee_var (i := 0) rfl (by first | exact .inl rfl | exact .inr (.inl rfl) | exact .inr (.inr rfl))) (ea_cons ee_int ea_nil))) ee_int) (sss_cons (ss_set (i := 6) sc.nd rfl (by first | exact .inl rfl | exact .inr rfl) (EE.lcP (ee_lc rfl sc.nd (ei_any (ee_var (i := 4) rfl (by first | exact .inl rfl | exact .inr (.inl rfl) | exact .inr (.inr rfl)))) (own := [("_law_one", 9)]) (blkOk_by (by kernel_rfl)) (by decide) (fun c s H C cl fp => (eg_name sc.nd rfl (by first | exact .inl rfl | exact .inr rfl))) (fun c s H C cl fp => ets_nil) (fun c s H C cl fp => (ee_callG (ok_law_draw T) (hr.mono (by decide)) hg rfl (T.glo 6) (T.keep 7) px_none (ea_cons (ee_var (i := 0) rfl (by first | exact .inl rfl | exact .inr (.inl rfl) | exact .inr (.inr rfl))) (ea_cons ee_int ea_nil))))))) (sss_one (ss_set (i := 4) sc.nd rfl (by first | exact .inl rfl | exact .inr rfl) (ee_tuple rfl (T.free 8) (ea_cons (EE.lcP (ee_lc rfl sc.nd (ei_any (ee_var (i := 4) rfl (by first | exact .inl rfl | exact .inr (.inl rfl) | exact .inr (.inr rfl)))) (own := [("_law_size", 10), ("_law_root", 11)]) (blkOk_by (by kernel_rfl)) (by decide) (fun c s H C cl fp => (eg_tup rfl (egs_cons (eg_name sc.nd rfl (by first | exact .inl rfl | exact .inr rfl)) (egs_cons (eg_name sc.nd rfl (by first | exact .inl rfl | exact .inr rfl)) egs_nil)))) (fun c s H C cl fp => (ets_one (et_in hu (ee_var (i := 11) rfl (by first | exact .inl rfl | exact .inr (.inl rfl) | exact .inr (.inr rfl))) (ee_var (i := 6) rfl (by first | exact .inl rfl | exact .inr (.inl rfl) | exact .inr (.inr rfl)))))) (fun c s H C cl fp => (ee_tup (ea_cons (ee_var (i := 10) rfl (by first | exact .inl rfl | exact .inr (.inl rfl) | exact .inr (.inr rfl))) (ea_cons (ee_var (i := 11) rfl (by first | exact .inl rfl | exact .inr (.inl rfl) | exact .inr (.inr rfl))) ea_nil)))))) ea_nil))))) sss_nil) (sss_cons (ss_set (i := 1) sc.nd rfl (by first | exact .inl rfl | exact .inr rfl) (ee_make (T.mkr 32) (ok_Form_init T) (hr.mono (by decide)) rfl (T.glo 28) px_body (ea_cons (ee_var (i := 4) rfl (by first | exact .inl rfl | exact .inr (.inl rfl) | exact .inr (.inr rfl))) (ea_cons (ee_var (i := 5) rfl (by first | exact .inl rfl | exact .inr (.inl rfl) | exact .inr (.inr rfl))) ea_nil)))) (sss_cons (ss_asg (ee_callG (ok_law_turns T) (hr.mono (by decide)) hg rfl (T.glo 39) (T.keep 40) px_body (ea_cons (q_prop (T.glo 28) (T.cls 29) (T.prop 41) (ok_Form_terms T) (hr.mono (by decide)) (ee_var (i := 1) rfl (by first | exact .inl rfl | exact .inr (.inl rfl) | exact .inr (.inr rfl)))) ea_nil)) (eh_tup rfl (ehs_cons (eh_name sc.nd rfl (by first | exact .inl rfl | exact .inr rfl)) (ehs_cons (eh_name sc.nd rfl (by first | exact .inl rfl | exact .inr rfl)) ehs_nil)))) (sss_cons (ss_if (ew_of (ew_or (et_ne hu (ee_repr hg hu rfl (T.free 50) (ea_cons (ee_meth0 (T.glo 28) (T.cls 29) (T.meth 46) (ok_Form_turns T) (hr.mono (by decide)) px_body (ee_var (i := 1) rfl (by first | exact .inl rfl | exact .inr (.inl rfl) | exact .inr (.inr rfl)))) ea_nil)) (ee_repr hg hu rfl (T.free 50) (ea_cons (ee_var (i := 7) rfl (by first | exact .inl rfl | exact .inr (.inl rfl) | exact .inr (.inr rfl))) ea_nil))) (ew_or1 (et_ne hu (ee_repr hg hu rfl (T.free 50) (ea_cons (ee_meth0 (T.glo 28) (T.cls 29) (T.meth 46) (ok_Form_turns T) (hr.mono (by decide)) px_body (ee_ownNeg (T.glo 28) (T.meth 49) (ok_Form_neg T) (hr.mono (by decide)) px_body (ee_var (i := 1) rfl (by first | exact .inl rfl | exact .inr (.inl rfl) | exact .inr (.inr rfl))))) ea_nil)) (ee_repr hg hu rfl (T.free 50) (ea_cons (ee_tuple rfl (T.free 8) (ea_cons (EE.lcP (ee_lc rfl sc.nd (ei_any (ee_var (i := 7) rfl (by first | exact .inl rfl | exact .inr (.inl rfl) | exact .inr (.inr rfl)))) (own := [("_law_m", 2), ("_law_sign", 12)]) (blkOk_by (by kernel_rfl)) (by decide) (fun c s H C cl fp => (eg_tup rfl (egs_cons (eg_name sc.nd rfl (by first | exact .inl rfl | exact .inr rfl)) (egs_cons (eg_name sc.nd rfl (by first | exact .inl rfl | exact .inr rfl)) egs_nil)))) (fun c s H C cl fp => ets_nil) (fun c s H C cl fp => (ee_tup (ea_cons (ee_var (i := 2) rfl (by first | exact .inl rfl | exact .inr (.inl rfl) | exact .inr (.inr rfl))) (ea_cons (ee_neg (ee_var (i := 12) rfl (by first | exact .inl rfl | exact .inr (.inl rfl) | exact .inr (.inr rfl)))) ea_nil)))))) ea_nil)) ea_nil)))))) (sss_one (ss_ret ee_bl)) sss_nil) (sss_cons (ss_for [] own_body rfl (ei_any (ee_lst (ea_cons (ee_add (ee_var (i := 8) rfl (by first | exact .inl rfl | exact .inr (.inl rfl) | exact .inr (.inr rfl))) ee_int) (ea_cons (ee_add (ee_var (i := 8) rfl (by first | exact .inl rfl | exact .inr (.inl rfl) | exact .inr (.inr rfl))) ee_int) (ea_cons (ee_add (ee_var (i := 8) rfl (by first | exact .inl rfl | exact .inr (.inl rfl) | exact .inr (.inr rfl))) ee_int) ea_nil))))) (eg_name sc.nd rfl (by first | exact .inl rfl | exact .inr rfl)) (sss_one (ss_if (et_ne hu (ee_callG (ok_law_sign_of T) (hr.mono (by decide)) hg rfl (T.glo 33) (T.keep 34) px_body (ea_cons (ee_callG (ok_law_sum T) (hr.mono (by decide)) hg rfl (T.glo 53) (T.keep 54) px_body (ea_cons (ee_var (i := 4) rfl (by first | exact .inl rfl | exact .inr (.inl rfl) | exact .inr (.inr rfl))) (ea_cons (ee_var (i := 2) rfl (by first | exact .inl rfl | exact .inr (.inl rfl) | exact .inr (.inr rfl))) ea_nil))) ea_nil)) (ee_ix hu (ee_ix hu (ee_var (i := 7) rfl (by first | exact .inl rfl | exact .inr (.inl rfl) | exact .inr (.inr rfl))) (ee_neg ee_int)) ee_int)) (sss_one (ss_ret ee_bl)) sss_nil))) (sss_cons (ss_if (ew_of (ew_or (et_ne hu (ee_meth0 (T.glo 28) (T.cls 29) (T.meth 46) (ok_Form_turns T) (hr.mono (by decide)) px_body (ee_make (T.mkr 32) (okD1_Form_init T) (hr.mono (by decide)) rfl (T.glo 28) px_body (ea_cons (ee_tup ea_nil) ea_nil))) (ee_tup (ea_cons (ee_tup (ea_cons ee_int (ea_cons ee_int ea_nil))) ea_nil))) (ew_or1 (et_ne hu (ee_meth0 (T.glo 28) (T.cls 29) (T.meth 46) (ok_Form_turns T) (hr.mono (by decide)) px_body (ee_make (T.mkr 32) (okD1_Form_init T) (hr.mono (by decide)) rfl (T.glo 28) px_body (ea_cons (ee_tup (ea_cons (ee_tup (ea_cons ee_int (ea_cons ee_int ea_nil))) ea_nil)) ea_nil))) (ee_tup (ea_cons (ee_tup (ea_cons ee_int (ea_cons ee_int ea_nil))) (ea_cons (ee_tup (ea_cons ee_int (ea_cons ee_int ea_nil))) ea_nil))))))) (sss_one (ss_ret ee_bl)) sss_nil) (sss_cons (ss_if (et_ne hu (ee_meth0 (T.glo 28) (T.cls 29) (T.meth 46) (ok_Form_turns T) (hr.mono (by decide)) px_body (ee_make (T.mkr 32) (okD1_Form_init T) (hr.mono (by decide)) rfl (T.glo 28) px_body (ea_cons (ee_tup (ea_cons (ee_tup (ea_cons ee_int (ea_cons ee_int ea_nil))) (ea_cons (ee_tup (ea_cons (ee_neg ee_int) (ea_cons ee_int ea_nil))) (ea_cons (ee_tup (ea_cons ee_int (ea_cons ee_int ea_nil))) ea_nil)))) ea_nil))) (ee_tup (ea_cons (ee_tup (ea_cons ee_int (ea_cons ee_int ea_nil))) (ea_cons (ee_tup (ea_cons ee_int (ea_cons ee_int ea_nil))) ea_nil)))) (sss_one (ss_ret ee_bl)) sss_nil) (sss_cons (ss_if (et_ne hu (ee_meth0 (T.glo 28) (T.cls 29) (T.meth 46) (ok_Form_turns T) (hr.mono (by decide)) px_body (ee_make (T.mkr 32) (okD1_Form_init T) (hr.mono (by decide)) rfl (T.glo 28) px_body (ea_cons (ee_tup (ea_cons (ee_tup (ea_cons ee_int (ea_cons ee_int ea_nil))) (ea_cons (ee_tup (ea_cons (ee_neg ee_int) (ea_cons ee_int ea_nil))) ea_nil))) ea_nil))) (ee_tup (ea_cons (ee_tup (ea_cons ee_int (ea_cons (ee_neg ee_int) ea_nil))) (ea_cons (ee_tup (ea_cons ee_int (ea_cons ee_int ea_nil))) (ea_cons (ee_tup (ea_cons ee_int (ea_cons ee_int ea_nil))) ea_nil))))) (sss_one (ss_ret ee_bl)) sss_nil) (sss_cons (ss_set (i := 3) sc.nd rfl (by first | exact .inl rfl | exact .inr rfl) (ee_make (T.mkr 32) (okD1_Form_init T) (hr.mono (by decide)) rfl (T.glo 28) px_body (ea_cons (ee_tup (ea_cons (ee_tup (ea_cons ee_int (ea_cons ee_int ea_nil))) (ea_cons (ee_tup (ea_cons (ee_neg (ee_pow ee_int ee_int)) (ea_cons ee_int ea_nil))) ea_nil))) ea_nil))) (sss_one (ss_ret (ee_and (ee_eq hu (ee_meth0 (T.glo 28) (T.cls 29) (T.meth 46) (ok_Form_turns T) (hr.mono (by decide)) px_body (ee_var (i := 3) rfl (by first | exact .inl rfl | exact .inr (.inl rfl) | exact .inr (.inr rfl)))) (ee_ix hu (ee_callG (ok_law_turns T) (hr.mono (by decide)) hg rfl (T.glo 39) (T.keep 40) px_body (ea_cons (q_prop (T.glo 28) (T.cls 29) (T.prop 41) (ok_Form_terms T) (hr.mono (by decide)) (ee_var (i := 3) rfl (by first | exact .inl rfl | exact .inr (.inl rfl) | exact .inr (.inr rfl)))) ea_nil)) ee_int)) (ee_one (ee_eq hu (ee_len rfl (T.free 0) (ea_cons (ee_meth0 (T.glo 28) (T.cls 29) (T.meth 46) (ok_Form_turns T) (hr.mono (by decide)) px_body (ee_var (i := 3) rfl (by first | exact .inl rfl | exact .inr (.inl rfl) | exact .inr (.inr rfl)))) ea_nil)) ee_int)))))))))))))))
theorem ok_law_right (T : TopQ faQ fnQ K mg) : FDG P w K mg base 9 (He.ga K "_law_right") F_law_right := by
  obtain ⟨fd, F⟩ := T.df 20
  exact FDG.of (fn_defG F sc_law_right fun c cdv A outer s H E hr hg => s_law_right T hr hg) (F.binds fun _ _ _ _ _ _ us hl => match us, hl with | [_], _ => rfl)
/-! _law_purse -/
theorem sc_law_purse : FnScope ["_law_script", "_law_spot", "_law_cell", "_law_seed", "_law_one"] ["_law_script", "_law_spot"] (defScope (top 36)) := ⟨rfl, rfl, rfl, by decide +kernel, rfl, by decide +kernel, by decide +kernel⟩
theorem s_law_purse (T : TopQ faQ fnQ K mg) {c : C0} {g : Addr} {cdv : Value} {A : Around} {outer : List PySem.Env} {s : Shared} {H : Hp} {E : XK} (hr : Room 0 (A.deeper (envOfC "_law_purse" (defScope (top 36)) s.heap.objs.size g cdv))) (hg : A.guards = some []) :
    SSs (cxOf (L2.CX P w) P w K mg base ["_law_script", "_law_spot", "_law_cell", "_law_seed", "_law_one"] "_law_purse" (defScope (top 36)) g cdv A outer s H E) c (fun cls d _ H => E cls d H) (defBody (top 36)) b_law_purse := by
  have sc := sc_law_purse
  have hu := Qd.Room.hu hr
  exact (sss_cons (ss_set (i := 2) sc.nd rfl (by first | exact .inl rfl | exact .inr rfl) (ee_if (et_lt (ee_var (i := 1) rfl (by first | exact .inl rfl | exact .inr (.inl rfl) | exact .inr (.inr rfl))) (ee_len rfl (T.free 0) (ea_cons (ee_var (i := 0) rfl (by first | exact .inl rfl | exact .inr (.inl rfl) | exact .inr (.inr rfl))) ea_nil))) (ee_ix hu (ee_var (i := 0) rfl (by first | exact .inl rfl | exact .inr (.inl rfl) | exact .inr (.inr rfl))) (ee_var (i := 1) rfl (by first | exact .inl rfl | exact .inr (.inl rfl) | exact .inr (.inr rfl)))) (ee_mul ee_int (ee_add (ee_var (i := 1) rfl (by first | exact .inl rfl | exact .inr (.inl rfl) | exact .inr (.inr rfl))) ee_int)))) (sss_cons (ss_set (i := 3) sc.nd rfl (by first | exact .inl rfl | exact .inr rfl) (ee_add ee_int (ee_var (i := 1) rfl (by first | exact .inl rfl | exact .inr (.inl rfl) | exact .inr (.inr rfl))))) (sss_cons (ss_for [4] own_body rfl (ei_any (ee_add (ee_sl (ee_var (i := 0) rfl (by first | exact .inl rfl | exact .inr (.inl rfl) | exact .inr (.inr rfl))) eo_none (eo_some ee_int)) (ee_lst (ea_cons (ee_var (i := 2) rfl (by first | exact .inl rfl | exact .inr (.inl rfl) | exact .inr (.inr rfl))) ea_nil)))) (eg_name sc.nd rfl (by first | exact .inl rfl | exact .inr rfl)) (sss_one (ss_set (i := 3) sc.nd rfl (by first | exact .inl rfl | exact .inr rfl) (ee_mod (ee_intc rfl (T.free 5) (ea_cons (ee_add (ee_add (ee_mul (ee_var (i := 3) rfl (by first | exact .inl rfl | exact .inr (.inl rfl) | exact .inr (.inr rfl))) ee_int) (ee_mod (ee_intc rfl (T.free 5) (ea_cons (ee_var (i := 4) rfl (by first | exact .inl rfl | exact .inr (.inl rfl) | exact .inr (.inr rfl))) ea_nil)) ee_int)) ee_int) ea_nil)) ee_int)))) (sss_one (ss_retO (ea_cons (ee_if (et_ge (ee_abs rfl (T.free 23) (ea_cons (ee_var (i := 2) rfl (by first | exact .inl rfl | exact .inr (.inl rfl) | exact .inr (.inr rfl))) ea_nil)) (ee_pow ee_int ee_int)) (ee_abs rfl (T.free 23) (ea_cons (ee_var (i := 2) rfl (by first | exact .inl rfl | exact .inr (.inl rfl) | exact .inr (.inr rfl))) ea_nil)) ee_int) (ea_cons (ee_var (i := 3) rfl (by first | exact .inl rfl | exact .inr (.inl rfl) | exact .inr (.inr rfl))) ea_nil)))))))
theorem ok_law_purse (T : TopQ faQ fnQ K mg) : FDG P w K mg base 1 (He.ga K "_law_purse") F_law_purse := by
  obtain ⟨fd, F⟩ := T.df 21
  exact FDG.of (fn_defG F sc_law_purse fun c cdv A outer s H E hr hg => s_law_purse T hr hg) (F.binds fun _ _ _ _ _ _ us hl => match us, hl with | [_, _], _ => rfl)
/-! law -/
theorem sc_law : FnScope ["_law_script", "_law_spot"] ["_law_script"] (defScope (top 45)) := ⟨rfl, rfl, rfl, by decide +kernel, rfl, by decide +kernel, by decide +kernel⟩
theorem s_law (T : TopQ faQ fnQ K mg) {c : C0} {g : Addr} {cdv : Value} {A : Around} {outer : List PySem.Env} {s : Shared} {H : Hp} {E : XK} (hr : Room 9 (A.deeper (envOfC "law" (defScope (top 45)) s.heap.objs.size g cdv))) (hg : A.guards = some []) :
    SSs (cxOf (L2.CX P w) P w K mg base ["_law_script", "_law_spot"] "law" (defScope (top 45)) g cdv A outer s H E) c (fun cls d _ H => E cls d H) (defBody (top 45)) b_law := by
  have sc := sc_law
  have hu := Qd.Room.hu hr
  exact (sss_one (ss_ret (ee_all rfl rfl (T.free 59) (ea_cons (EE.lcP (ee_lc rfl sc.nd (ei_range1 rfl (T.free 3) (ea_cons (ee_max rfl rfl (T.free 2) (ea_cons ee_int (ea_cons (ee_min rfl rfl (T.free 1) (ea_cons (ee_len rfl (T.free 0) (ea_cons (ee_var (i := 0) rfl (by first | exact .inl rfl | exact .inr (.inl rfl) | exact .inr (.inr rfl))) ea_nil)) (ea_cons ee_int ea_nil))) ea_nil))) ea_nil)) (own := [("_law_spot", 1)]) (blkOk_by (by kernel_rfl)) (by decide) (fun c s H C cl fp => (eg_name sc.nd rfl (by first | exact .inl rfl | exact .inr rfl))) (fun c s H C cl fp => ets_nil) (fun c s H C cl fp => (ee_callG (ok_law_right T) (hr.mono (by decide)) hg rfl (T.glo 55) (T.keep 56) px_none (ea_cons (ee_callG (ok_law_purse T) (hr.mono (by decide)) hg rfl (T.glo 57) (T.keep 58) px_none (ea_cons (ee_var (i := 0) rfl (by first | exact .inl rfl | exact .inr (.inl rfl) | exact .inr (.inr rfl))) (ea_cons (ee_var (i := 1) rfl (by first | exact .inl rfl | exact .inr (.inl rfl) | exact .inr (.inr rfl))) ea_nil))) ea_nil))))) ea_nil))))
theorem ok_law (T : TopQ faQ fnQ K mg) : FDG P w K mg base 10 (He.ga K "law") F_law := by
  obtain ⟨fd, F⟩ := T.df 22
  exact FDG.of (fn_defG F sc_law fun c cdv A outer s H E hr hg => s_law T hr hg) (F.binds fun _ _ _ _ _ _ us hl => match us, hl with | [_], _ => rfl)
theorem fn_law (T : TopQ faQ fnQ K mg) {fd : FuncData} (F : Fun K "law" "law" (top 45) (He.ga K "law") fd) : FnG P w K mg base (L2.CX P w) 10 (He.ga K "law") fd ["_law_script"] (spD K mg F_law) :=
  fn_defG F sc_law fun c cdv A outer s H E hr hg => s_law T hr hg
theorem bd_law {fd : FuncData} (F : Fun K "law" "law" (top 45) (He.ga K "law") fd) (s : Shared) (u : Value) : BindsTo s fd ⟨[u], []⟩ [("_law_script", u)] := by
  obtain ⟨oc, od, kV, doc, pm, an, cdv, ct, osl, e, _⟩ := F.ex
  subst e
  exact .of_eq rfl
-- LAW 10 22 60 _law_script
end
end Sk22
end
section
set_option Elab.async false
set_option linter.all false
set_option autoImplicit false
set_option maxRecDepth 100000
set_option maxHeartbeats 0
namespace Sk22
open PySem PySem.Spec PyProof.Rows L2 Qd
abbrev R : PySem.W.OpenRow := PySem.W.OpenLaw.row PySem.Challenge.rw_sortdraws_k22_whole_turns_of_forms
abbrev hk : PySem.W.Hook := hookQ 5 faQ fnQ
def ob (s : PySem.W.SharedT) : He.AlD := obsGQ 5 faQ fnQ (HandSHeadRun.getT s)
theorem ob_eq (s : PySem.W.SharedT) : ob s = hk.obs s.abs := obsGQ_eq (HandSHeadRun.getT_eq s)
def ls0 : List Str := ["WrongValue", "NoAnswer", "InvalidText", "InvalidNumber", "InvalidParts", "NotAForm", "InvalidTerms", "TooMany", "NotWhole", "MOST_TICKETS", "MOST_DRAWS", "DIGITS", "is_integer", "is_natural", "check_draws", "number_of", "greatest_divisor", "lowest", "is_term", "wrong_term"]
def ls1 : List Str := ["shared_divisor", "sign_of", "Form", "power", "numerator_at", "is_ruled", "text_of", "form_of", "check_form", "integer_with", "term_with", "form_with", "_law_purse", "_law_draw", "_law_power", "_law_sum", "_law_terms", "_law_sign_of", "_law_rules", "_law_turns"]
def ls2 : List Str := ["_law_right"]
theorem run (w : World) : HandSHeadRun.RunEq R (PySem.W.view R.prog [45]) hk ob 20000 (ls0 ++ ls1 ++ ls2) w := by
  intro os
  kernel_rfl
end Sk22
end
section
set_option Elab.async false
set_option linter.all false
set_option autoImplicit false
set_option maxRecDepth 100000

/-! The combinators, applied: a reading by simp. -/
namespace Qd
open PySem PySem.Spec PyProof.Rows L2
/-- what follows, out of simp's sight -/
class Kt (α : Type) where
  f : α
def U.sq (u : U) {g : Kt FS} : U := match u with
  | .nx e m => g.f e m
  | r => r
@[simp] theorem U.sq_nx (e : Env) (m : MS) (g : FS) : @U.sq (U.nx e m) ⟨g⟩ = g e m := rfl
@[simp] theorem U.sq_rt (d : D) (e : Env) (m : MS) (g : Kt FS) : @U.sq (U.rt d e m) g = .rt d e m := rfl
@[simp] theorem U.sq_bk (e : Env) (m : MS) (g : Kt FS) : @U.sq (U.bk e m) g = .bk e m := rfl
@[simp] theorem U.sq_ct (e : Env) (m : MS) (g : Kt FS) : @U.sq (U.ct e m) g = .ct e m := rfl
@[simp] theorem U.sq_ex (n : Str) (ns : List Str) (vs : List D) (e : Env) (m : MS) (g : Kt FS) : @U.sq (U.ex n ns vs e m) g = .ex n ns vs e m := rfl
@[simp] theorem U.sq_no (g : Kt FS) : @U.sq (U.no) g = .no := rfl
section
variable {α β : Type}
def R.bd (r : R α) {k : Kt (α → Env → MS → R β)} : R β := r.bind k.f
@[simp↓] theorem R.bind_bd (r : R α) (k : α → Env → MS → R β) : r.bind k = @R.bd α β r ⟨k⟩ := rfl
@[simp] theorem R.bd_ok (a : α) (e : Env) (m : MS) (k : α → Env → MS → R β) : @R.bd α β (.ok a e m) ⟨k⟩ = k a e m := rfl
@[simp] theorem R.bd_ex (n : Str) (ns : List Str) (vs : List D) (e : Env) (m : MS) (k : Kt (α → Env → MS → R β)) : @R.bd α β (.ex n ns vs e m) k = .ex n ns vs e m := rfl
@[simp] theorem R.bd_no (k : Kt (α → Env → MS → R β)) : @R.bd α β .no k = .no := rfl
def R.bdN (r : R α) {k : Kt (α → Env → MS → R β)} : R β := r.bindN k.f
@[simp↓] theorem R.bindN_bd (r : R α) (k : α → Env → MS → R β) : r.bindN k = @R.bdN α β r ⟨k⟩ := rfl
@[simp] theorem R.bdN_ok (a : α) (e : Env) (m : MS) (k : α → Env → MS → R β) : @R.bdN α β (.ok a e m) ⟨k⟩ = k a e m := rfl
@[simp] theorem R.bdN_no (k : Kt (α → Env → MS → R β)) : @R.bdN α β .no k = .no := rfl
def R.th (r : R α) {k : Kt (α → Env → MS → U)} : U := r.thn k.f
@[simp↓] theorem R.thn_th (r : R α) (k : α → Env → MS → U) : r.thn k = @R.th α r ⟨k⟩ := rfl
@[simp] theorem R.th_ok (a : α) (e : Env) (m : MS) (k : α → Env → MS → U) : @R.th α (.ok a e m) ⟨k⟩ = k a e m := rfl
@[simp] theorem R.th_ex (n : Str) (ns : List Str) (vs : List D) (e : Env) (m : MS) (k : Kt (α → Env → MS → U)) : @R.th α (.ex n ns vs e m) k = .ex n ns vs e m := rfl
@[simp] theorem R.th_no (k : Kt (α → Env → MS → U)) : @R.th α .no k = .no := rfl
end
def chnO (o : Option D) (k : FE) : FE := fun e m => match o with
  | some (.bl true) => k e m
  | some (.bl false) => .ok (.bl false) e m
  | _ => .no
@[simp] theorem chnO_bl (b : Bool) (k : FE) (e : Env) (m : MS) : chnO (some (.bl b)) k e m = if b then k e m else .ok (.bl false) e m := by cases b <;> rfl
@[simp] theorem ite_okR {α : Type} {p : Prop} [Decidable p] (x y : α) (e : Env) (m : MS) : (if p then R.ok x e m else R.ok y e m) = R.ok (if p then x else y) e m := by split <;> rfl
@[simp] theorem ite_blD {p : Prop} [Decidable p] (x y : Bool) : (if p then D.bl x else D.bl y) = D.bl (if p then x else y) := by split <;> rfl
/-- the end of a def -/
def U.out (u : U) : R D := match u with
  | .rt d _ m => .ok d [] m
  | .nx _ m => .ok .non [] m
  | .ex nm ns vs _ m => .ex nm ns vs [] m
  | _ => .no
@[simp] theorem U.out_rt (d : D) (e : Env) (m : MS) : (U.rt d e m).out = .ok d [] m := rfl
@[simp] theorem U.out_nx (e : Env) (m : MS) : (U.nx e m).out = .ok .non [] m := rfl
@[simp] theorem U.out_ex (n : Str) (ns : List Str) (vs : List D) (e : Env) (m : MS) : (U.ex n ns vs e m).out = .ex n ns vs [] m := rfl
theorem defF_out (n N : Nat) (fs : FS) (ds : List D) (m : MS) : defF n N fs ds m = if ds.length = n then (fs (ds.map (fun d => some (.fz d)) ++ List.replicate (N - n) none) m).out else .no := rfl
section
variable {e : Env} {m : MS} {i j : Int} {n : Nat} {f g h : FE} {t u : FT} {a b : D} {s s' : Str} {l l' : List D} {fa : FA} {x y : Bool}
@[simp] theorem q_xC : xC a e m = .ok a e m := rfl
@[simp] theorem q_xVar : xVar n e m = match e[n]? with
  | some (some (.fz d)) => .ok d e m
  | _ => .no := rfl
@[simp] theorem q_xFrz : xFrz n e m = match e[n]? with
  | some (some (.fz d)) => .ok d e m
  | some (some (.ol l)) => .ok (.lst l) (e.set n (some (.fz (.lst l)))) m
  | some (some (.od ks vs)) => .ok (.dic ks vs) (e.set n (some (.fz (.dic ks vs)))) m
  | _ => .no := rfl
@[simp] theorem q_x1 {k : D → Env → MS → R D} : x1 f k e m = (f e m).bind k := rfl
@[simp] theorem q_x2 {k : D → D → Env → MS → R D} : x2 f g k e m = (f e m).bind fun x e m => (g e m).bind fun y e m => k x y e m := rfl
@[simp] theorem q_xA {k : List D → Env → MS → R D} : xA fa k e m = (fa e m).bind k := rfl
@[simp] theorem q_pur1 {k : D → Option D} : pur1 k a e m = fin (k a) e m := rfl
@[simp] theorem q_pur2 {k : D → D → Option D} : pur2 k a b e m = fin (k a b) e m := rfl
@[simp] theorem q_purA {k : List D → Option D} : purA k l e m = fin (k l) e m := rfl
@[simp] theorem q_aNil : aNil e m = .ok [] e m := rfl
@[simp] theorem q_aCons : aCons f fa e m = (f e m).bind fun d e m => (fa e m).bind fun ds e m => .ok (d :: ds) e m := rfl
@[simp] theorem q_asB : asB (.bl x) e m = .ok x e m := rfl
@[simp] theorem q_tOf : tOf f e m = (f e m).bind asB := rfl
@[simp] theorem q_tNt : tNt t e m = (t e m).bind fun k e m => .ok (!k) e m := rfl
@[simp] theorem q_tOr : tOr t u e m = (t e m).bind fun k e m => if k then .ok true e m else u e m := rfl
@[simp] theorem q_tAn : tAn t u e m = (t e m).bind fun k e m => if k then u e m else .ok false e m := rfl
@[simp] theorem q_tAll : tAll e m = .ok true e m := rfl
@[simp] theorem q_xIf : xIf t f g e m = (t e m).bind fun k e m => if k then f e m else g e m := rfl
@[simp] theorem q_vAn : vAn f g e m = (f e m).bind fun d e m => match d with
  | .bl k => if k then g e m else .ok (.bl false) e m
  | _ => .no := rfl
@[simp] theorem q_vOr : vOr f g e m = (f e m).bind fun d e m => match d with
  | .bl k => if k then .ok (.bl true) e m else g e m
  | _ => .no := rfl
@[simp] theorem q_vNt : vNt (.bl x) = some (.bl (!x)) := rfl
@[simp] theorem q_chn {p q : D → D → Option D} : xChn f g h p q e m = (f e m).bind fun x e m => (g e m).bind fun y e m => chnO (p x y) (fun e m => (h e m).bind fun z e m => fin (q y z) e m) e m := rfl
@[simp] theorem q_add : addD (.int i) (.int j) = some (.int (i + j)) := rfl
@[simp] theorem q_sub : subD (.int i) (.int j) = some (.int (i - j)) := rfl
@[simp] theorem q_mod : modD (.int i) (.int j) = if 0 < j then some (.int (i % j)) else if j = 0 then none else some (.int (i.fmod j)) := rfl
@[simp] theorem q_fdiv : fdivD (.int i) (.int j) = if 0 < j ∧ j < 1073741824 then some (.int (i / j)) else if 0 < j ∧ j.natAbs.log2 < 9000 then some (.int (i / j)) else none := rfl
@[simp] theorem q_mul : mulD (.int i) (.int j) = if (-(2 ^ 64) < i ∧ i < 2 ^ 64) ∨ (-(2 ^ 64) < j ∧ j < 2 ^ 64) then some (.int (i * j)) else none := rfl
@[simp] theorem q_neg : negD (.int i) = some (.int (-i)) := rfl
@[simp] theorem q_lt : opLt (.int i) (.int j) = some (.bl (decide (i < j))) := rfl
@[simp] theorem q_le : opLe (.int i) (.int j) = some (.bl (decide (i ≤ j))) := rfl
@[simp] theorem q_gt : opGt (.int i) (.int j) = some (.bl (decide (j < i))) := rfl
@[simp] theorem q_ge : opGe (.int i) (.int j) = some (.bl (decide (j ≤ i))) := rfl
@[simp] theorem q_ltS : opLt (.str s) (.str s') = some (.bl (ltS s s')) := rfl
@[simp] theorem q_eqI : opEq (.int i) (.int j) = some (.bl (decide (i = j))) := by
  unfold opEq
  rw [cod_int.eqD (by decide)]
  rfl
@[simp] theorem q_neI : opNe (.int i) (.int j) = some (.bl (!decide (i = j))) := by
  unfold opNe
  rw [cod_int.eqD (by decide)]
  rfl
@[simp] theorem q_inT {r : List Str} : opIn (.str s) (.tup (r.map .str)) = some (.bl (decide (s ∈ r))) := by
  unfold opIn
  rw [cod_str.inT (by decide)]
  rfl
@[simp] theorem q_inL {r : List Str} : opIn (.str s) (.lst (r.map .str)) = some (.bl (decide (s ∈ r))) := by
  unfold opIn
  rw [cod_str.inL (by decide)]
  rfl
@[simp] theorem q_niT {r : List Str} : opNi (.str s) (.tup (r.map .str)) = some (.bl (!decide (s ∈ r))) := by
  unfold opNi
  rw [cod_str.inT (by decide)]
  rfl
@[simp] theorem q_niL {r : List Str} : opNi (.str s) (.lst (r.map .str)) = some (.bl (!decide (s ∈ r))) := by
  unfold opNi
  rw [cod_str.inL (by decide)]
  rfl
@[simp] theorem q_neG {p q : List (List Str)} : opNe (dG p) (dG q) = some (.bl (!decide (p = q))) := by
  unfold opNe
  rw [cod_G.eqD (by decide)]
  rfl
@[simp] theorem q_mkTup : mkTup l = if l.length ≤ 16777216 then some (.tup l) else none := rfl
@[simp] theorem q_mkLst : mkLst l = if l.length ≤ 16777216 then some (.lst l) else none := rfl
@[simp] theorem q_int : intG [.int i] = some (.int i) := rfl
@[simp] theorem q_abs : absG [.int i] = some (.int (if i < 0 then -i else i)) := rfl
@[simp] theorem q_divmod : divmodG [.int i, .int j] = if 0 < j ∧ j < 1073741824 then some (.tup [.int (i / j), .int (i % j)]) else none := rfl
@[simp] theorem q_max : maxG [.int i, .int j] = some (.int (if j > i then j else i)) := rfl
@[simp] theorem q_min : minG [.int i, .int j] = some (.int (if j < i then j else i)) := rfl
@[simp] theorem q_tupL : tupG [.lst l] = some (.tup l) := rfl
@[simp] theorem q_tupT : tupG [.tup l] = some (.tup l) := rfl
@[simp] theorem q_lenT : lenG [.tup l] e m = .ok (.int l.length) e m := rfl
@[simp] theorem q_lenL : lenG [.lst l] e m = .ok (.int l.length) e m := rfl
@[simp] theorem q_lenX {ns : List Int} : lenG [.scr ns] e m = .ok (.int ns.length) e m := rfl
@[simp] theorem q_lenS : lenG [.str s] e m = .ok (.int s.length) e m := rfl
@[simp] theorem q_isi {U : String} : isiG [a, .ty U] = match tyD a with
  | some T => (kitB T U).map .bl
  | none => none := rfl
@[simp] theorem q_tyI : tyD (.int i) = some "int" := rfl
@[simp] theorem q_tyS : tyD (.str s) = some "str" := rfl
@[simp] theorem q_tyT : tyD (.tup l) = some "tuple" := rfl
@[simp] theorem q_tyL : tyD (.lst l) = some "list" := rfl
@[simp] theorem q_ii : kitB "int" "int" = some true := by decide +kernel
@[simp] theorem q_ib : kitB "int" "bool" = some false := by decide +kernel
@[simp] theorem q_ss : kitB "str" "str" = some true := by decide +kernel
@[simp] theorem q_tt : kitB "tuple" "tuple" = some true := by decide +kernel
@[simp] theorem q_srt {r : List Str} : srtDG [.lst (r.map .str)] = if r.length ≤ 16777216 then some (.lst ((sortS r).map .str)) else none := by
  show (srtL (r.map .str)).map D.lst = _
  split
  · rename_i h
    rw [srtL_str r h]
    rfl
  · rename_i h
    unfold srtL
    rw [pdOs_str]
    simp only
    rw [if_neg]
    · rfl
    · intro z
      exact h (by simpa using z.2)
theorem blsO_is : ∀ l : List Bool, blsO (l.map .bl) = some l
  | [] => rfl
  | k :: l => by
    have ih := blsO_is l
    rw [List.map_cons]
    unfold blsO
    rw [ih]
    rfl
theorem q_all (l : List Bool) : allG [.lst (l.map .bl)] = some (.bl (l.all id)) := by
  unfold allG
  simp only
  rw [blsO_is]
  rfl
theorem q_any (l : List Bool) : anyG [.lst (l.map .bl)] = some (.bl (l.any id)) := by
  unfold anyG
  simp only
  rw [blsO_is]
  rfl
end
/-! ### statements -/
section
variable {e : Env} {m : MS} {n : Nat} {f g : FS} {fe : FE} {fa : FA} {t : FT} {fv gv : FV} {tg : FG} {cl : List Nat} {fh : FH}
@[simp] theorem s_seq : sSeq f g e m = @U.sq (f e m) ⟨g⟩ := rfl
@[simp] theorem s_ret : sRet fe e m = (fe e m).thn fun d e m => .rt d e m := rfl
@[simp] theorem s_retN : sRetN e m = .rt .non e m := rfl
@[simp] theorem s_nx : sNx e m = .nx e m := rfl
@[simp] theorem s_if : sIf t f g e m = (t e m).thn fun b e m => if b then f e m else g e m := rfl
@[simp] theorem s_drop : sDrop fe e m = (fe e m).thn fun _ e m => .nx e m := rfl
@[simp] theorem s_set : sSet n fe e m = (fe e m).thn fun d e m => .nx (e.set n (some (.fz d))) m := rfl
@[simp] theorem s_setV : sSetV n fv e m = (fv e m).thn fun s e m => match s with
  | .oi _ _ _ => .no
  | s => .nx (e.set n (some s)) m := rfl
@[simp] theorem s_for : sFor fa tg cl f e m = (fa e m).thn fun ds e m => runFor tg cl f ds e m := rfl
@[simp] theorem s_asg : sAsg fe fh e m = (fe e m).thn fun d e m => match fh d e m with
  | .ok _ e m => .nx e m
  | _ => .no := rfl
@[simp] theorem s_par {k : Nat} : sPar n k fv gv e m = (fv e m).thn fun s e m => if notOi s then (gv e m).thn fun t e m => if notOi t then .nx ((e.set n (some s)).set k (some t)) m else .no else .no := rfl
@[simp] theorem s_vLst : vLst fa e m = (fa e m).bind fun l e m => if l.length ≤ 16777216 then .ok (.ol l) e m else .no := rfl
@[simp] theorem s_vList : vList fa e m = (fa e m).bind lstV := rfl
@[simp] theorem s_call {F : FF} : xCall F fa e m = (fa e m).bind fun ds e m => (F ds m).atE e := rfl
@[simp] theorem s_hN {d : D} : hN_ n d e m = .ok () (e.set n (some (.fz d))) m := rfl
end
@[simp] theorem ix20 : L2.ixN 2 0 = some 0 := rfl
@[simp] theorem ix21 : L2.ixN 2 1 = some 1 := rfl

theorem seqIx {k : Int} {n : Nat} (h0 : 0 ≤ k) (h1 : k < n) : seqIndex? k n = some k.toNat := by
  have h : ¬ k < 0 := by omega
  simp [seqIndex?, h, h0, h1]
theorem atI_nat {α : Type} (l : List α) (k : Nat) : L2.atI l (k : Int) = l[k]? := by
  unfold L2.atI L2.ixN
  rw [if_pos (by omega)]
  split
  · simp
  · rename_i h
    rw [List.getElem?_eq_none (by omega)]
    rfl
@[simp] theorem atI_0 {α : Type} (l : List α) : L2.atI l 0 = l[0]? := atI_nat l 0
@[simp] theorem atI_1 {α : Type} (l : List α) : L2.atI l 1 = l[1]? := atI_nat l 1
@[simp] theorem atI_2 {α : Type} (l : List α) : L2.atI l 2 = l[2]? := atI_nat l 2
@[simp] theorem atI_cast {α : Type} (l : List α) (k : Nat) : L2.atI l (k : Int) = l[k]? := atI_nat l k
@[simp] theorem atI_cast1 {α : Type} (l : List α) (k : Nat) : L2.atI l ((k : Int) + 1) = l[k + 1]? := by
  have : ((k : Int) + 1) = ((k + 1 : Nat) : Int) := by omega
  rw [this, atI_nat]
theorem atI_of {α : Type} (l : List α) {k : Int} (h : 0 ≤ k) : L2.atI l k = l[k.toNat]? := by
  have := atI_nat l k.toNat
  rwa [Int.toNat_of_nonneg h] at this
theorem cut_to {α : Type} (l : List α) (k : Nat) : cutD l none (some (k : Int)) = l.take k := by
  unfold cutD
  rw [HT.sIx_none, HT.sIx_nat]
  simp only [List.drop_zero, Nat.sub_zero]
  by_cases h : k ≤ l.length
  · rw [Nat.min_eq_left h]
  · rw [Nat.min_eq_right (by omega), List.take_of_length_le (Nat.le_refl _), List.take_of_length_le (by omega)]
theorem cut_to1 {α : Type} (l : List α) (k : Nat) : cutD l none (some (1 + (k : Int))) = l.take (1 + k) := by
  have : (1 + (k : Int)) = ((1 + k : Nat) : Int) := by omega
  rw [this, cut_to]
section
variable {e : Env} {m : MS} {i : Nat} {fa : FA} {g : List D → List D → Env → MS → R D} {f : FE} {l : List D} {d : D} {k : Int} {lo hi : FO}
@[simp] theorem q_onL : onL i fa g e m = match ownL i e with
  | some _ => (fa e m).bind fun ds e m => match ownL i e with
    | some l => g l ds e m
    | none => .no
  | none => .no := rfl
@[simp] theorem q_ownL : ownL i e = match e[i]? with
  | some (some (.ol l)) => some l
  | _ => none := rfl
@[simp] theorem q_ap : apG i l [d] e m = if l.length < 16777216 then .ok .non (e.set i (some (.ol (l ++ [d])))) m else .no := rfl
@[simp] theorem q_pop : popG i l [.int k] e m = match seqIndex? k l.length with
  | some j => match l[j]? with
    | some d => if -(2 ^ 63) ≤ k ∧ k < 2 ^ 63 then .ok d (e.set i (some (.ol (l.eraseIdx j)))) m else .no
    | none => .no
  | none => .no := rfl
@[simp] theorem q_own {p : List D → Option D} {q : List D → Env → MS → R D} : xOwn i p q e m = if hasS e i then (match e[i]? with
  | some (some (.ol l)) => fin (p l) e m
  | some (some (.fz d)) => q [d] e m
  | _ => .no) else .no := rfl
@[simp] theorem q_hasS : hasS e i = match e[i]? with
  | some (some _) => true
  | _ => false := rfl
@[simp] theorem q_sl : xSl f lo hi e m = (f e m).bind fun x e m => (lo e m).bind fun l e m => (hi e m).bind fun h e m => fin (slG x l h) e m := rfl
@[simp] theorem q_oN : oNone e m = .ok none e m := rfl
@[simp] theorem q_slT {a b : Option Int} : slG (.tup l) a b = some (.tup (cutD l a b)) := rfl
@[simp] theorem q_rng1 : rng1G [.int k] e m = if -(2 ^ 62) ≤ k ∧ k ≤ 16777216 then .ok (rangeD 0 k) e m else .no := rfl
@[simp] theorem q_enum : enumG [.tup l] e m = .ok (enumD 0 l) e m := rfl
@[simp] theorem q_itT : itemsD (.tup l) e m = .ok l e m := rfl
@[simp] theorem q_itL : itemsD (.lst l) e m = .ok l e m := rfl
@[simp] theorem q_itS {z : Str} : itemsD (.str z) e m = .ok (signsD z) e m := rfl
@[simp] theorem q_lstV : lstV [.tup l] e m = .ok (.ol l) e m := rfl
@[simp] theorem q_lstV2 : lstV [.lst l] e m = .ok (.ol l) e m := rfl
@[simp] theorem q_gN : gN i d e = some (e.set i (some (.fz d))) := rfl
@[simp] theorem w_any : wAny f e m = (f e m).bind itemsD := rfl
@[simp] theorem w_rng1 : wRng1 fa e m = (fa e m).bind rng1G := rfl
@[simp] theorem w_rng2 : wRng2 fa e m = (fa e m).bind rng2G := rfl
@[simp] theorem w_zip : wZip fa e m = (fa e m).bind zipG := rfl
@[simp] theorem w_enum : wEnum fa e m = (fa e m).bind enumG := rfl
@[simp] theorem v_val : vVal f e m = (f e m).bind fun d e m => .ok (.fz d) e m := rfl
@[simp] theorem q_noi1 {l : List D} : notOi (.ol l) = true := rfl
@[simp] theorem q_noi2 : notOi (.fz d) = true := rfl
end
theorem rangeD_len' (n : Nat) : (rangeD 0 (n : Int)).length = n := by
  rw [rangeD_len]
  omega
theorem erase_perm {α : Type} {l : List α} {j : Nat} {a : α} (h : l[j]? = some a) : (a :: l.eraseIdx j).Perm l := by
  have hj : j < l.length := (List.getElem?_eq_some_iff.mp h).1
  have e : l[j] = a := (List.getElem?_eq_some_iff.mp h).2
  subst e
  rw [List.eraseIdx_eq_take_drop_succ]
  refine List.perm_middle.symm.trans (List.Perm.of_eq ?_)
  rw [← List.drop_eq_getElem_cons hj, List.take_append_drop]

/-! ### comprehensions -/
@[simp] theorem clw_nil (e : Env) : clw [] e = e := rfl
@[simp] theorem clw_cons (v : Nat) (vs : List Nat) (e : Env) : clw (v :: vs) e = (clw vs e).set v none := rfl
@[simp] theorem okW_nil (e : Env) : okW e [] = true := rfl
@[simp] theorem okW_cons (e : Env) (v : Nat) (vs : List Nat) : okW e (v :: vs) = ((match e[v]? with
    | some (some (.fz _)) => true
    | some none => true
    | _ => false) && okW e vs) := rfl
@[simp] theorem gsNil_nil (e : Env) : gsNil [] e = some e := rfl
@[simp] theorem gsCons_cons (f : FG) (g : List D → Env → Option Env) (d : D) (ds : List D) (e : Env) : gsCons f g (d :: ds) e = (f d e).bind (g ds) := rfl
@[simp] theorem gT_tup (n : Nat) (g : List D → Env → Option Env) (l : List D) (e : Env) : gT n g (.tup l) e = if l.length = n then g l e else none := rfl
section
variable {f f1 : FA} {t t1 : FG} {vs vs1 : List Nat} {ts ts1 : FT} {fe fk fv : FE} {e : Env} {m : MS} {d : D}
@[simp] theorem q_lcP : xLcP f t vs ts fe e m = (f e m).bind fun ds e m => if okW e vs then (lcR (cT t vs ts e) (cF t vs fe e) ds m).bindN fun l _ m => .ok (.lst l) e m else .no := rfl
@[simp] theorem q_vlcP : vLcP f t vs ts fe e m = (f e m).bind fun ds e m => if okW e vs then (lcR (cT t vs ts e) (cF t vs fe e) ds m).bindN fun l _ m => .ok (.ol l) e m else .no := rfl
@[simp] theorem q_dcP : xDcP f t vs ts fk fv e m = (f e m).bind fun ds e m => if okW e vs then (dcR (cT t vs ts e) (cF t vs fk e) (cF t vs fv e) ds ([], []) m).bindN fun l _ m => .ok (.dic l.1 l.2) e m else .no := rfl
@[simp] theorem q_lc2P : xLc2P f t vs ts f1 t1 vs1 ts1 fe e m = (f e m).bind fun ds e m => if okW e vs then (lcB (cT t vs ts e) (cB t vs f1 t1 vs1 ts1 fe e) ds m).bindN fun l _ m => if l.length ≤ 16777216 then .ok (.lst l) e m else .no else .no := rfl
@[simp] theorem q_dc2P : xDc2P f t vs ts f1 t1 vs1 ts1 fk fv e m = (f e m).bind fun ds e m => if okW e vs then (dcB (cT t vs ts e) (cDd t vs f1 t1 vs1 ts1 fk fv e) ds ([], []) m).bindN fun l _ m => if l.1.length < 16777216 then .ok (.dic l.1 l.2) e m else .no else .no := rfl
open Classical in
@[simp] theorem q_cDd {p : List D × List D} : cDd t vs f1 t1 vs1 ts1 fk fv e d p m = match t d (clw vs e) with
  | some E => if clw vs1 E = E then ((f1 E m).pu E).bindN fun ds1 _ m => dcR (cT t1 vs1 ts1 E) (cF t1 vs1 fk E) (cF t1 vs1 fv E) ds1 p m else .no
  | none => .no := rfl
open Classical in
@[simp] theorem q_cT : cT t vs ts e d m = match t d (clw vs e) with
  | some E => if clw vs E = clw vs e then (ts E m).pu E else .no
  | none => .no := rfl
@[simp] theorem q_cF : cF t vs fe e d m = match t d (clw vs e) with
  | some E => (fe E m).pu E
  | none => .no := rfl
open Classical in
@[simp] theorem q_cB : cB t vs f1 t1 vs1 ts1 fe e d m = match t d (clw vs e) with
  | some E => if clw vs1 E = E then ((f1 E m).pu E).bindN fun ds1 _ m => lcR (cT t1 vs1 ts1 E) (cF t1 vs1 fe E) ds1 m else .no
  | none => .no := rfl
end
section
variable {α β : Type} {T : α → MS → R Bool} {F G : α → MS → R D} {B : α → MS → R (List D)} {m : MS} {l : List α} {p : α → Bool} {g : α → D}
@[simp] theorem lcR_map {T : D → MS → R Bool} {F : D → MS → R D} {c : α → D} {m : MS} : ∀ {l : List α}, lcR T F (l.map c) m = lcR (fun a m => T (c a) m) (fun a m => F (c a) m) l m := by
  intro l
  induction l generalizing m with
  | nil => rfl
  | cons a l ih => simp only [List.map_cons, lcR, ih]
@[simp] theorem lcB_map {T : D → MS → R Bool} {F : D → MS → R (List D)} {c : α → D} {m : MS} : ∀ {l : List α}, lcB T F (l.map c) m = lcB (fun a m => T (c a) m) (fun a m => F (c a) m) l m := by
  intro l
  induction l generalizing m with
  | nil => rfl
  | cons a l ih => simp only [List.map_cons, lcB, ih]
@[simp] theorem dcR_map {T : D → MS → R Bool} {F G : D → MS → R D} {c : α → D} {m : MS} {p : List D × List D} : ∀ {l : List α}, dcR T F G (l.map c) p m = dcR (fun a m => T (c a) m) (fun a m => F (c a) m) (fun a m => G (c a) m) l p m := by
  intro l
  induction l generalizing m p with
  | nil => rfl
  | cons a l ih => simp only [List.map_cons, dcR, ih]
@[simp] theorem dcB_map {T : D → MS → R Bool} {G : D → List D × List D → MS → R (List D × List D)} {c : α → D} {m : MS} {p : List D × List D} : ∀ {l : List α}, dcB T G (l.map c) p m = dcB (fun a m => T (c a) m) (fun a p m => G (c a) p m) l p m := by
  intro l
  induction l generalizing m p with
  | nil => rfl
  | cons a l ih => simp only [List.map_cons, dcB, ih]
theorem lcR_on : ∀ {l : List α}, (∀ a ∈ l, T a m = .ok (p a) [] m) → (∀ a ∈ l, p a = true → F a m = .ok (g a) [] m) → lcR T F l m = .ok ((l.filter p).map g) [] m
  | [], _, _ => rfl
  | a :: l, h1, h2 => by
    have ih := lcR_on (l := l) (fun x hx => h1 x (List.mem_cons_of_mem _ hx)) fun x hx => h2 x (List.mem_cons_of_mem _ hx)
    unfold lcR
    rw [h1 a List.mem_cons_self, R.bindN_ok]
    cases q : p a with
    | true =>
      rw [if_pos rfl, h2 a List.mem_cons_self q, List.filter_cons, if_pos q, R.bindN_ok, ih]
      rfl
    | false =>
      rw [if_neg (by decide), List.filter_cons, q, if_neg (by decide), ih]
theorem lcB_on {B' : α → List D} : ∀ {l : List α}, (∀ a ∈ l, T a m = .ok (p a) [] m) → (∀ a ∈ l, p a = true → B a m = .ok (B' a) [] m) → lcB T B l m = .ok ((l.filter p).flatMap B') [] m
  | [], _, _ => rfl
  | a :: l, h1, h2 => by
    have ih := lcB_on (l := l) (fun x hx => h1 x (List.mem_cons_of_mem _ hx)) fun x hx => h2 x (List.mem_cons_of_mem _ hx)
    unfold lcB
    rw [h1 a List.mem_cons_self, R.bindN_ok]
    cases q : p a with
    | true =>
      rw [if_pos rfl, h2 a List.mem_cons_self q, List.filter_cons, if_pos q, R.bindN_ok, ih]
      rfl
    | false =>
      rw [if_neg (by decide), List.filter_cons, q, if_neg (by decide), ih]
@[simp] theorem lcR_pure : lcR (fun a m => .ok (p a) [] m) (fun a m => .ok (g a) [] m) l m = .ok ((l.filter p).map g) [] m := lcR_on (fun _ _ => rfl) fun _ _ _ => rfl
@[simp] theorem lcB_pure {B' : α → List D} : lcB (fun a m => .ok (p a) [] m) (fun a m => .ok (B' a) [] m) l m = .ok ((l.filter p).flatMap B') [] m := lcB_on (fun _ _ => rfl) fun _ _ _ => rfl
theorem lcR_congr {T' : α → MS → R Bool} {F' : α → MS → R D} {l' : List α} (hl : l = l') (hT : ∀ a, a ∈ l' → ∀ m, T a m = T' a m) (hF : ∀ a, a ∈ l' → ∀ m, F a m = F' a m) : lcR T F l m = lcR T' F' l' m := by
  subst hl
  induction l generalizing m with
  | nil => rfl
  | cons a l ih =>
    unfold lcR
    rw [hT a List.mem_cons_self]
    congr 1
    funext b e m
    rw [hF a List.mem_cons_self]
    have ih := fun m => ih (m := m) (fun x hx => hT x (List.mem_cons_of_mem _ hx)) fun x hx => hF x (List.mem_cons_of_mem _ hx)
    simp only [ih]
theorem lcB_congr {T' : α → MS → R Bool} {B' : α → MS → R (List D)} {l' : List α} (hl : l = l') (hT : ∀ a, a ∈ l' → ∀ m, T a m = T' a m) (hF : ∀ a, a ∈ l' → ∀ m, B a m = B' a m) : lcB T B l m = lcB T' B' l' m := by
  subst hl
  induction l generalizing m with
  | nil => rfl
  | cons a l ih =>
    unfold lcB
    rw [hT a List.mem_cons_self]
    congr 1
    funext b e m
    rw [hF a List.mem_cons_self]
    have ih := fun m => ih (m := m) (fun x hx => hT x (List.mem_cons_of_mem _ hx)) fun x hx => hF x (List.mem_cons_of_mem _ hx)
    simp only [ih]
/-- elements that change what is shared -/
theorem lcR_inv {I : MS → Prop} {P : D → Prop} : ∀ {l : List α} {m : MS}, (∀ a ∈ l, ∀ m, I m → T a m = .ok true [] m ∧ ∃ y m', F a m = .ok y [] m' ∧ P y ∧ I m') → I m → ∃ ys m', lcR T F l m = .ok ys [] m' ∧ ys.length = l.length ∧ (∀ y ∈ ys, P y) ∧ I m'
  | [], m, _, h => ⟨[], m, rfl, rfl, by simp, h⟩
  | a :: l, m, h, hI => by
    obtain ⟨h1, y, m1, h2, h3, h4⟩ := h a List.mem_cons_self m hI
    obtain ⟨ys, m2, k1, k2, k3, k4⟩ := lcR_inv (l := l) (m := m1) (fun x hx => h x (List.mem_cons_of_mem _ hx)) h4
    refine ⟨y :: ys, m2, ?_, by simp [k2], ?_, k4⟩
    · unfold lcR
      rw [h1]
      simp only [R.bindN_ok, if_true, h2, k1]
    · intro z hz
      rcases List.mem_cons.mp hz with rfl | hz
      · exact h3
      · exact k3 z hz
end
theorem hasKey_str (l : List Str) (x : Str) : hasKey (l.map .str) (.inr x) = decide (x ∈ l) := by
  unfold hasKey
  rw [List.any_map]
  induction l with
  | nil => rfl
  | cons a l ih =>
    rw [List.any_cons, ih]
    simp only [Function.comp, keyK]
    by_cases z : a = x
    · subst z
      simp
    · have z' : ¬ x = a := fun y => z y.symm
      by_cases y : x ∈ l <;> simp [z, z', y]
theorem hasKey_int (l : List Int) (x : Int) : hasKey (l.map .int) (.inl x) = decide (x ∈ l) := by
  unfold hasKey
  rw [List.any_map]
  induction l with
  | nil => rfl
  | cons a l ih =>
    rw [List.any_cons, ih]
    simp only [Function.comp, keyK]
    by_cases z : a = x
    · subst z
      simp
    · have z' : ¬ x = a := fun y => z y.symm
      by_cases y : x ∈ l <;> simp [z, z', y]
/-- names as keys, all of them new -/
theorem dcR_str {α : Type} {nm : α → Str} {v : α → D} {m : MS} : ∀ {as : List α} {l : List Str} {us : List D}, (l ++ as.map nm).Nodup →
    dcR (fun _ m => .ok true [] m) (fun a m => .ok (.str (nm a)) [] m) (fun a m => .ok (v a) [] m) as (l.map .str, us) m = .ok ((l ++ as.map nm).map .str, us ++ as.map v) [] m
  | [], l, us, _ => by simp [dcR]
  | a :: as, l, us, h => by
    have hn : ¬ nm a ∈ l := fun z => (List.nodup_append.mp h).2.2 (nm a) z (nm a) (by simp) rfl
    unfold dcR
    simp only [R.bindN_ok, if_true, keyK]
    have e1 : putDk (l.map .str) (.inr (nm a)) = (l ++ [nm a]).map .str := by
      unfold putDk
      rw [hasKey_str, decide_eq_false hn]
      simp [keyD]
    have e2 : putDv (l.map .str) us (.inr (nm a)) (v a) = us ++ [v a] := by
      unfold putDv
      rw [hasKey_str, decide_eq_false hn]
      simp
    rw [e1, e2, dcR_str (as := as) (l := l ++ [nm a]) (by rw [List.append_assoc]; exact h)]
    simp
theorem dcR_str0 {α : Type} {nm : α → Str} {v : α → D} {m : MS} {as : List α} (h : (as.map nm).Nodup) :
    dcR (fun _ m => .ok true [] m) (fun a m => .ok (.str (nm a)) [] m) (fun a m => .ok (v a) [] m) as ([], []) m = .ok (as.map fun a => .str (nm a), as.map v) [] m := by
  have := dcR_str (v := v) (m := m) (as := as) (nm := nm) (l := []) (us := []) (by simpa using h)
  simpa [Function.comp_def] using this
/-- numbers, each once, in the order in which they come first -/
def uqI : List Int → List Int → List Int
  | [], l => l
  | a :: r, l => uqI r (if a ∈ l then l else l ++ [a])
theorem uqI_mem : ∀ (r l : List Int) (x : Int), x ∈ uqI r l ↔ x ∈ l ∨ x ∈ r
  | [], l, x => by simp [uqI]
  | a :: r, l, x => by
    unfold uqI
    rw [uqI_mem]
    split
    · rename_i h
      simp
      constructor
      · rintro (z | z) <;> simp [z]
      · rintro (z | z | z)
        · exact .inl z
        · subst z; exact .inl h
        · exact .inr z
    · simp
      constructor
      · rintro ((z | z) | z) <;> simp [z]
      · rintro (z | z | z) <;> simp [z]
theorem uqI_nd : ∀ (r l : List Int), l.Nodup → (uqI r l).Nodup
  | [], l, h => h
  | a :: r, l, h => by
    unfold uqI
    refine uqI_nd r _ ?_
    split
    · exact h
    · rename_i z
      rw [List.nodup_append]
      exact ⟨h, by simp, fun x hx y hy e => by simp at hy; subst hy; subst e; exact z hx⟩
theorem uqI_len : ∀ (r l : List Int), (uqI r l).length ≤ l.length + r.length
  | [], l => Nat.le_refl _
  | a :: r, l => by
    unfold uqI
    have := uqI_len r (if a ∈ l then l else l ++ [a])
    split at this
    · rename_i h
      rw [if_pos h]
      simp
      omega
    · rename_i h
      rw [if_neg h]
      simp at this ⊢
      omega
theorem dcR_int {α : Type} {r : α → Int} {v : D} {m : MS} : ∀ {as : List α} {l : List Int} {us : List D},
    ∃ us', dcR (fun _ m => .ok true [] m) (fun a m => .ok (.int (r a)) [] m) (fun _ m => .ok v [] m) as (l.map .int, us) m = .ok ((uqI (as.map r) l).map .int, us') [] m
  | [], l, us => ⟨us, rfl⟩
  | a :: as, l, us => by
    obtain ⟨us', h⟩ := dcR_int (r := r) (v := v) (m := m) (as := as) (l := if r a ∈ l then l else l ++ [r a]) (us := putDv (l.map .int) us (.inl (r a)) v)
    refine ⟨us', ?_⟩
    rw [List.map_cons, uqI, ← h]
    conv => lhs; unfold dcR
    simp only [R.bindN_ok, if_true, keyK]
    congr 2
    unfold putDk
    rw [hasKey_int]
    by_cases z : r a ∈ l
    · simp [z]
    · simp [z, keyD]
/-! ### loops -/
theorem runFor_ix {t : FG} {cl : List Nat} {body : FS} {e : Qd.Env} {m : MS} (ds : List D) (I : Nat → Qd.Env → MS → Prop) (h0 : I 0 e m)
    (step : ∀ i d e m, ds[i]? = some d → I i e m → ∃ e1, t d e = some e1 ∧ ∃ e2 m2, body e1 m = .nx e2 m2 ∧ I (i + 1) (clr cl e2) m2) : ∃ e' m', runFor t cl body ds e m = .nx e' m' ∧ I ds.length e' m' := by
  obtain ⟨e', m', h1, i, h2, h3⟩ := runFor_inv (t := t) (cl := cl) (body := body) ds (fun r e m => ∃ i, i + r.length = ds.length ∧ ds.drop i = r ∧ I i e m) e m ⟨0, by simp, rfl, h0⟩ fun d r e m ⟨i, hi, hd, hI⟩ => by
    have hlt : i < ds.length := by
      have : (d :: r).length = r.length + 1 := rfl
      omega
    have hg : ds[i]? = some d := by
      have := congrArg (fun l => l[0]?) hd
      simpa using this
    obtain ⟨e1, k1, e2, m2, k2, k3⟩ := step i d e m hg hI
    refine ⟨e1, k1, e2, m2, k2, i + 1, ?_, ?_, k3⟩
    · have : (d :: r).length = r.length + 1 := rfl
      omega
    · have := congrArg (List.drop 1) hd
      simpa [List.drop_drop] using this
  refine ⟨e', m', h1, ?_⟩
  have : i = ds.length := by simpa using h2
  rw [← this]
  exact h3.2
/-- one turn -/
def turn (t : FG) (cl : List Nat) (body : FS) (d : D) (e : Env) (m : MS) : U := match t d e with
  | none => .no
  | some e1 => match body e1 m with
    | .nx e2 m2 => .nx (clr cl e2) m2
    | .ct e2 m2 => .nx (clr cl e2) m2
    | u => u
theorem runFor_cons {t : FG} {cl : List Nat} {body : FS} {d : D} {ds : List D} {e : Env} {m : MS} : runFor t cl body (d :: ds) e m = match turn t cl body d e m with
    | .nx e m => runFor t cl body ds e m
    | .bk e m => .nx e m
    | u => u := by
  show (match t d e with
    | none => U.no
    | some e1 => match body e1 m with
      | .nx e2 m2 => runFor t cl body ds (clr cl e2) m2
      | .ct e2 m2 => runFor t cl body ds (clr cl e2) m2
      | .bk e2 m2 => .nx e2 m2
      | .rt d e2 m2 => .rt d e2 m2
      | .ex n ns vs e2 m2 => .ex n ns vs e2 m2
      | .no => .no) = _
  unfold turn
  cases t d e with
  | none => rfl
  | some e1 =>
    simp only
    cases body e1 m <;> rfl
/-- a state of the loop's own: its slots, its step -/
theorem runFor_fold {α β : Type} {t : FG} {cl : List Nat} {body : FS} {c : α → D} {m : MS} (I : β → Env) (st : β → α → β) : ∀ (l : List α) (b : β), (∀ a ∈ l, ∀ b, turn t cl body (c a) (I b) m = .nx (I (st b a)) m) → runFor t cl body (l.map c) (I b) m = .nx (I (l.foldl st b)) m
  | [], b, _ => rfl
  | a :: l, b, h => by
    rw [List.map_cons, runFor_cons, h a List.mem_cons_self b]
    exact runFor_fold I st l (st b a) fun x hx => h x (List.mem_cons_of_mem _ hx)
/-- .. with an invariant, by the number of turns -/
theorem runFor_state {α : Type} {t : FG} {cl : List Nat} {body : FS} {c : α → D} (l : List α) (I : Nat → Env → MS → Prop) {e : Env} {m : MS} (h0 : I 0 e m)
    (step : ∀ i a e m, l[i]? = some a → I i e m → ∃ e2 m2, turn t cl body (c a) e m = .nx e2 m2 ∧ I (i + 1) e2 m2) : ∃ e' m', runFor t cl body (l.map c) e m = .nx e' m' ∧ I l.length e' m' := by
  have key : ∀ (r : List α) (i : Nat) (e : Env) (m : MS), l.drop i = r → I i e m → ∃ e' m', runFor t cl body (r.map c) e m = .nx e' m' ∧ I (i + r.length) e' m' := by
    intro r
    induction r with
    | nil => intro i e m hd h; exact ⟨e, m, rfl, h⟩
    | cons a r ih =>
      intro i e m hd h
      have hg : l[i]? = some a := by
        have := congrArg (fun l => l[0]?) hd
        simpa using this
      obtain ⟨e2, m2, h1, h2⟩ := step i a e m hg h
      obtain ⟨e', m', h3, h4⟩ := ih (i + 1) e2 m2 (by
        have := congrArg (List.drop 1) hd
        simpa [List.drop_drop] using this) h2
      refine ⟨e', m', ?_, ?_⟩
      · rw [List.map_cons, runFor_cons, h1]
        exact h3
      · rw [List.length_cons, show i + (r.length + 1) = i + 1 + r.length by omega]
        exact h4
  have := key l 0 e m rfl h0
  simpa using this
/-- .. in a goal -/
theorem for_state {α : Type} {t : FG} {cl : List Nat} {body : FS} {c : α → D} {l : List α} {e : Env} {m : MS} {k : U → Prop} (I : Nat → Env → MS → Prop) (h0 : I 0 e m)
    (step : ∀ i a e m, l[i]? = some a → I i e m → ∃ e2 m2, turn t cl body (c a) e m = .nx e2 m2 ∧ I (i + 1) e2 m2) (fin : ∀ e' m', I l.length e' m' → k (.nx e' m')) : k (runFor t cl body (l.map c) e m) := by
  obtain ⟨e', m', h1, h2⟩ := runFor_state (t := t) (cl := cl) (body := body) (c := c) l I h0 step
  rw [h1]
  exact fin e' m' h2
theorem runFor_keep {α : Type} {t : FG} {cl : List Nat} {body : FS} {c : α → D} {e : Env} {m : MS} : ∀ {l : List α}, (∀ a ∈ l, turn t cl body (c a) e m = .nx e m) → runFor t cl body (l.map c) e m = .nx e m
  | [], _ => rfl
  | a :: l, h => by
    rw [List.map_cons, runFor_cons, h a List.mem_cons_self]
    exact runFor_keep fun x hx => h x (List.mem_cons_of_mem _ hx)
/-- a def ends with a value, the shared objects so -/
def Ends (P : D → MS → Prop) (r : R D) : Prop := ∃ d m, r = .ok d [] m ∧ P d m
theorem Ends.ok {P : D → MS → Prop} {d : D} {m : MS} (h : P d m) : Ends P (.ok d [] m) := ⟨d, m, rfl, h⟩
@[simp] theorem Ends.ok_iff {P : D → MS → Prop} {d : D} {m : MS} : Ends P (.ok d [] m) ↔ P d m := ⟨fun ⟨_, _, h, k⟩ => by cases h; exact k, Ends.ok⟩
theorem zip_at {α : Type} {l : List α} {i j : Nat} {a : α} (h : (l.zipIdx)[i]? = some (a, j)) : l[i]? = some a ∧ j = i := by
  rw [List.getElem?_zipIdx] at h
  obtain ⟨x, h1, h2⟩ := Option.map_eq_some_iff.mp h
  cases h2
  exact ⟨h1, by omega⟩
theorem zip_mem {α : Type} {l : List α} {j : Nat} {a : α} (h : (a, j) ∈ l.zipIdx) : l[j]? = some a := by
  obtain ⟨i, hi⟩ := List.getElem?_of_mem h
  obtain ⟨h1, rfl⟩ := zip_at hi
  exact h1
/-- a loop that only looks: the first turn that ends it, or none -/
theorem runFor_look {α : Type} {t : FG} {cl : List Nat} {body : FS} {c : α → D} {e : Env} {m : MS} (end_ : α → Option U) : ∀ (l : List α), (∀ a ∈ l, turn t cl body (c a) e m = match end_ a with
    | some u => u
    | none => .nx e m) → (∀ a ∈ l, ∀ u, end_ a = some u → ∀ e m, u ≠ .nx e m ∧ u ≠ .bk e m) → runFor t cl body (l.map c) e m = match l.findSome? end_ with
    | some u => u
    | none => .nx e m
  | [], _, _ => rfl
  | a :: l, h, k => by
    rw [List.map_cons, runFor_cons, h a List.mem_cons_self, List.findSome?_cons]
    cases q : end_ a with
    | some u =>
      have := k a List.mem_cons_self u q
      cases u with
      | nx e m => exact absurd rfl (this e m).1
      | bk e m => exact absurd rfl (this e m).2
      | _ => rfl
    | none => exact runFor_look end_ l (fun x hx => h x (List.mem_cons_of_mem _ hx)) fun x hx => k x (List.mem_cons_of_mem _ hx)
@[simp] theorem q_turn {t : FG} {cl : List Nat} {body : FS} {d : D} {e : Env} {m : MS} : turn t cl body d e m = match t d e with
  | none => .no
  | some e1 => match body e1 m with
    | .nx e2 m2 => .nx (clr cl e2) m2
    | .ct e2 m2 => .nx (clr cl e2) m2
    | u => u := rfl
@[simp] theorem clr_nil (e : Env) : clr [] e = e := rfl
@[simp] theorem clr_cons (v : Nat) (vs : List Nat) (e : Env) : clr (v :: vs) e = clr vs (e.set v none) := rfl
/-! ### what is walked, told by other lists -/
@[simp] theorem enumD_map {α : Type} (c : α → D) : ∀ (l : List α) (i : Nat), enumD i (l.map c) = (l.zipIdx i).map fun p => D.tup [.int (p.2 : Nat), c p.1]
  | [], _ => rfl
  | a :: l, i => by rw [List.map_cons, enumD, enumD_map c l (i + 1)]; rfl
@[simp] theorem zipD_map {α β : Type} (c : α → D) (d : β → D) : ∀ (l : List α) (r : List β), zipD (l.map c) (r.map d) = (l.zip r).map fun p => D.tup [c p.1, d p.2]
  | [], _ => rfl
  | a :: l, [] => rfl
  | a :: l, b :: r => by rw [List.map_cons, List.map_cons, zipD, zipD_map c d l r]; rfl
@[simp] theorem rangeD_map (n : Nat) : rangeD 0 (n : Int) = (List.range n).map fun i => D.int (i : Nat) := by
  unfold rangeD
  simp
@[simp] theorem q_ixT {l : List D} {i : Int} {e : Env} {m : MS} : ixG (.tup l) (.int i) e m = fin (L2.atI l i) e m := rfl
@[simp] theorem q_ixL {l : List D} {i : Int} {e : Env} {m : MS} : ixG (.lst l) (.int i) e m = fin (L2.atI l i) e m := rfl
@[simp] theorem q_ixX {l : List Int} {i : Int} {e : Env} {m : MS} : ixG (.scr l) (.int i) e m = fin ((L2.atI l i).map .int) e m := rfl
@[simp] theorem q_ixS {z : Str} {i : Int} {e : Env} {m : MS} : ixG (.str z) (.int i) e m = fin ((L2.atI z.cps.toList i).map fun k => .str ⟨#[k]⟩) e m := rfl
@[simp] theorem q_inS {z : Str} {k : Nat} : opIn (.str ⟨#[k]⟩) (.str z) = some (.bl (decide (k ∈ z.cps.toList))) := rfl
theorem signs_is (z : Str) : signsD z = z.cps.toList.map fun k => .str ⟨#[k]⟩ := rfl
@[simp] theorem q_allB {l : List Bool} : allG [.lst (l.map .bl)] = some (.bl (l.all id)) := q_all l
@[simp] theorem q_anyB {l : List Bool} : anyG [.lst (l.map .bl)] = some (.bl (l.any id)) := q_any l
@[simp] theorem q_allF {α : Type} {l : List α} {g : α → Bool} : allG [.lst (l.map fun a => .bl (g a))] = some (.bl (l.all g)) := by
  have := q_all (l.map g)
  rw [List.map_map] at this
  rw [show (fun a => D.bl (g a)) = D.bl ∘ g from rfl, this]
  simp
@[simp] theorem q_anyF {α : Type} {l : List α} {g : α → Bool} : anyG [.lst (l.map fun a => .bl (g a))] = some (.bl (l.any g)) := by
  have := q_any (l.map g)
  rw [List.map_map] at this
  rw [show (fun a => D.bl (g a)) = D.bl ∘ g from rfl, this]
  simp
@[simp] theorem filter_tt {α : Type} (l : List α) : l.filter (fun _ => true) = l := by simp [List.filter_eq_self]
@[simp] theorem q_addL {a b : List D} : addD (.lst a) (.lst b) = if a.length + b.length ≤ 16777216 then some (.lst (a ++ b)) else none := rfl
@[simp] theorem q_addT {a b : List D} : addD (.tup a) (.tup b) = if a.length + b.length ≤ 16777216 then some (.tup (a ++ b)) else none := rfl
@[simp] theorem q_addS {a b : Str} : addD (.str a) (.str b) = if a.length + b.length ≤ 16777216 then some (.str (a ++ b)) else none := rfl
@[simp] theorem q_sFld {cn x : Str} {i : Nat} {f : FE} {e : Env} {m : MS} : sFld cn i x f e m = (f e m).thn fun d e m => match e[i]? with
  | some (some (Sl.oi c ns vs)) => if decide (c = cn) && (!hasN ns x && decide (ns.length < 1000)) then .nx (e.set i (some (.oi c (ns ++ [x]) (vs ++ [d])))) m else .no
  | _ => .no := rfl
@[simp] theorem hasN_nil (x : Str) : hasN [] x = false := rfl
@[simp] theorem q_insOf {cn : Str} {e : Env} {m : MS} : insOf cn e m = match e[0]? with
  | some (some (Sl.oi c ns vs)) => if c = cn then .ok (ns, vs) [] m else .no
  | _ => .no := rfl
/-- the end of an __init__ -/
def U.ini (cn : Str) (u : U) : R (List Str × List D) := match u with
  | .rt .non e m => insOf cn e m
  | .nx e m => insOf cn e m
  | .ex nm ns vs _ m => .ex nm ns vs [] m
  | _ => .no
@[simp] theorem U.ini_nx (cn : Str) (e : Env) (m : MS) : (U.nx e m).ini cn = insOf cn e m := rfl
@[simp] theorem U.ini_rt (cn : Str) (e : Env) (m : MS) : (U.rt .non e m).ini cn = insOf cn e m := rfl
@[simp] theorem U.ini_ex (cn : Str) (n : Str) (ns : List Str) (vs : List D) (e : Env) (m : MS) : (U.ex n ns vs e m).ini cn = .ex n ns vs [] m := rfl
theorem initF_out (cn : Str) (n N : Nat) (fs : FS) (ds : List D) (m : MS) : initF cn n N fs ds m = if ds.length + 1 = n then (fs (some (.oi cn [] []) :: (ds.map (fun d => some (.fz d)) ++ List.replicate (N - n) none)) m).ini cn else .no := rfl
section
variable {cn nm : Str} {g : FF} {gi : FI} {fo : FE} {fa fk : FA} {e : Env} {m : MS} {d x y : D} {n i : Nat} {idx : List Nat} {cs : List Str} {kc : List (Str × Bool)} {l us : List D}
@[simp] theorem q_prop' : xProp cn g fo e m = (fo e m).bind fun d e ms => if insIs cn "" d then (g [d] ms).noX.atE e else .no := rfl
@[simp] theorem q_meth : xMeth cn nm g fo fa e m = (fo e m).bind fun d e ms => if insIs cn nm d then (fa e ms).bind fun ds e ms => (g (d :: ds) ms).atE e else .no := rfl
@[simp] theorem q_meth0 : xMeth0 cn nm g fo e m = (fo e m).bind fun d e ms => if insIs cn nm d then (g [d] ms).atE e else .no := rfl
@[simp] theorem q_methK : xMethK cn nm n idx g fo fk e m = (fo e m).bind fun d e ms => if insIs cn nm d then (fk e ms).bind fun ds e ms => if ds.length = n then (g (permL idx [d] ds) ms).atE e else .no else .no := rfl
@[simp] theorem q_oc : xOc cn g fo fa e m = (fo e m).bind fun d e ms => if insIs cn "" d then (fa e ms).bind fun ds e ms => (g (d :: ds) ms).atE e else .no := rfl
@[simp] theorem q_ocK : xOcK cn n idx g fo fk e m = (fo e m).bind fun d e ms => if insIs cn "" d then (fk e ms).bind fun ds e ms => if ds.length = n then (g (permL idx [d] ds) ms).atE e else .no else .no := rfl
@[simp] theorem q_cmeth : xCMeth cn g fo fa e m = (fo e m).bind fun d e ms => if isGlo cn d then (fa e ms).bind fun ds e ms => (g (d :: ds) ms).atE e else .no := rfl
@[simp] theorem q_cmethK : xCMethK cn n idx g fo fk e m = (fo e m).bind fun d e ms => if isGlo cn d then (fk e ms).bind fun ds e ms => if ds.length = n then (g (permL idx [d] ds) ms).atE e else .no else .no := rfl
@[simp] theorem q_callK : xCallK n idx g fk e m = (fk e m).bind fun ds e ms => if ds.length = n then (g (permL idx [] ds) ms).atE e else .no := rfl
@[simp] theorem q_make : xMake cn gi fa e m = (fa e m).bind (madeG cn gi) := rfl
@[simp] theorem q_makeV : xMakeV i cn gi fa e m = match e[i]? with
  | some (some (.fz d)) => if isGlo cn d then (fa e m).bind (madeG cn gi) else .no
  | _ => .no := rfl
@[simp] theorem q_isGlo : isGlo cn (.glo cn) = true := by simp [isGlo]
@[simp] theorem q_ownG : ownG cn cs g x y e m = if insIs cn "" x && othOk cs y then (g [x, y] m).atE e else .no := rfl
@[simp] theorem q_ownNG : ownNG cn cs g x y e m = if insIs cn "" x && othOk cs y then mapD vNt' ((g [x, y] m).atE e) else .no := rfl
@[simp] theorem q_ownB : ownB cn g x y e m = if insIs cn "" x && insIs cn "" y then (g [x, y] m).atE e else .no := rfl
@[simp] theorem q_ownU : ownU cn g x e m = if insIs cn "" x then (g [x] m).atE e else .no := rfl
@[simp] theorem q_ownL1 : ownL1 cn g [x] e m = if insIs cn "" x then mapD lnB ((g [x] m).atE e) else .no := rfl
@[simp] theorem q_ownI : ownI cn g x y e m = if insIs cn "" x then (g [x, y] m).atE e else .no := rfl
@[simp] theorem q_ownIn {neg : Bool} : ownIn neg cn g x y e m = if insIs cn "" y then mapD (if neg then vNt' else idB) ((g [y, x] m).atE e) else .no := rfl
@[simp] theorem permL_nil (us ws : List D) : permL [] us ws = [] := rfl
@[simp] theorem permL_cons (j : Nat) (js : List Nat) (us ws : List D) : permL (j :: js) us ws = (match (us ++ ws)[j]? with
    | some d => d :: permL js us ws
    | none => permL js us ws) := by
  unfold permL
  rw [List.filterMap_cons]
  split <;> rename_i h <;> rw [h]
@[simp] theorem permLs_nil (us ws : List Str) : permL [] us ws = [] := rfl
@[simp] theorem q_inN {neg : Bool} {f : FE} : xInN neg f i e m = (f e m).bind fun y e m => if hasS e i then (match e[i]? with
  | some (some (.ol l)) => fin ((inD y (.lst l)).map fun b => .bl (if neg then !b else b)) e m
  | some (some (.fz d)) => fin ((inD y d).map fun b => .bl (if neg then !b else b)) e m
  | _ => .no) else .no := rfl
end
theorem dcR_congr {α : Type} {T T' : α → MS → R Bool} {F F' G G' : α → MS → R D} {l l' : List α} {p : List D × List D} {m : MS} (hl : l = l') (hT : ∀ a, a ∈ l' → ∀ m, T a m = T' a m) (hF : ∀ a, a ∈ l' → ∀ m, F a m = F' a m) (hG : ∀ a, a ∈ l' → ∀ m, G a m = G' a m) : dcR T F G l p m = dcR T' F' G' l' p m := by
  subst hl
  induction l generalizing p m with
  | nil => rfl
  | cons a l ih =>
    unfold dcR
    rw [hT a List.mem_cons_self]
    congr 1
    funext b e m
    rw [hF a List.mem_cons_self]
    have ih := fun p m => ih (p := p) (m := m) (fun x hx => hT x (List.mem_cons_of_mem _ hx)) (fun x hx => hF x (List.mem_cons_of_mem _ hx)) fun x hx => hG x (List.mem_cons_of_mem _ hx)
    simp only [ih, hG a List.mem_cons_self]
@[simp] theorem q_eqG {p q : List (List Str)} : opEq (dG p) (dG q) = some (.bl (decide (p = q))) := by
  unfold opEq
  rw [cod_G.eqD (by decide)]
  rfl
@[simp] theorem q_eqN {p q : List Str} : opEq (dN p) (dN q) = some (.bl (decide (p = q))) := by
  unfold opEq
  rw [cod_N.eqD (by decide)]
  rfl
@[simp] theorem q_neN {p q : List Str} : opNe (dN p) (dN q) = some (.bl (!decide (p = q))) := by
  unfold opNe
  rw [cod_N.eqD (by decide)]
  rfl
@[simp] theorem q_neN0 {p : List Str} : opNe (dN p) (.tup []) = some (.bl (!decide (p = []))) := q_neN (q := [])
@[simp] theorem q_eqN0 {p : List Str} : opEq (dN p) (.tup []) = some (.bl (decide (p = []))) := q_eqN (q := [])
@[simp] theorem q_leS {s s' : Str} : opLe (.str s) (.str s') = some (.bl (!decide (s'.cps.toList < s.cps.toList))) := rfl
@[simp] theorem q_gtS {s s' : Str} : opGt (.str s) (.str s') = some (.bl (decide (s'.cps.toList < s.cps.toList))) := rfl
/-- a result without its slots -/
def R.bare {α : Type} (r : R α) : R α := match r with
  | .ok a _ m => .ok a [] m
  | _ => .no
@[simp] theorem R.bare_ok {α : Type} (a : α) (e : Env) (m : MS) : (R.ok a e m).bare = .ok a [] m := rfl
@[simp] theorem R.pu_atE {α : Type} (r : R α) (E : Env) : (r.atE E).pu E = r.bare := by
  cases r with
  | ok a e m => simp [R.bare]
  | ex n ns vs e m => rfl
  | no => rfl
@[simp] theorem rangeD_3 : rangeD 0 3 = (List.range 3).map fun i => D.int (i : Nat) := rfl
@[simp] theorem rangeD_4 : rangeD 0 4 = (List.range 4).map fun i => D.int (i : Nat) := rfl
@[simp] theorem rangeD_2 : rangeD 0 2 = (List.range 2).map fun i => D.int (i : Nat) := rfl
@[simp] theorem rangeD_5 : rangeD 0 5 = (List.range 5).map fun i => D.int (i : Nat) := rfl
@[simp] theorem rangeD_6 : rangeD 0 6 = (List.range 6).map fun i => D.int (i : Nat) := rfl
@[simp] theorem rangeD_8 : rangeD 0 8 = (List.range 8).map fun i => D.int (i : Nat) := rfl
@[simp] theorem q_enumL {l : List D} {e : Env} {m : MS} : enumG [.lst l] e m = .no := rfl
end Qd
end
section
set_option Elab.async false
set_option linter.all false
set_option autoImplicit false
set_option maxRecDepth 100000

/-! Rows told apart by ranks. -/
namespace Qd
open PySem PySem.Spec PyProof.Rows L2
/-- rows one behind another -/
def flat {α : Type} (gs : List (List α)) : List α := gs.flatten
section
variable {α β : Type} {gs hs : List (List α)} {g : List α} {i : Nat}
theorem flat_nil : flat ([] : List (List α)) = [] := rfl
theorem flat_cons : flat (g :: gs) = g ++ flat gs := List.flatten_cons
theorem flat_append : flat (gs ++ hs) = flat gs ++ flat hs := List.flatten_append
theorem mem_flat {x : α} : x ∈ flat gs ↔ ∃ g ∈ gs, x ∈ g := List.mem_flatten
@[simp] theorem flatMap_map (f : α → β) : (gs.flatMap fun g => g.map f) = (flat gs).map f := by
  unfold flat
  rw [List.flatMap_def, List.map_flatten]
@[simp] theorem flatMap_map' (f : α → β) : gs.flatMap (List.map f) = (flat gs).map f := flatMap_map f
@[simp] theorem flatMap_mapF {γ : Type} {l : List α} (F : α → List β) (f : β → γ) : (l.flatMap fun a => (F a).map f) = (l.flatMap F).map f := List.map_flatMap.symm
theorem flat_take (h : gs[i]? = some g) : flat (gs.take (i + 1)) = flat (gs.take i) ++ g := by
  unfold flat
  rw [List.take_add_one, h]
  simp
theorem flat_sub (gs : List (List α)) (i : Nat) : (flat (gs.take i)).Sublist (flat gs) := by
  conv => rhs; rw [← List.take_append_drop i gs]
  rw [flat_append]
  exact List.sublist_append_left _ _
theorem flat_le (gs : List (List α)) (i : Nat) : (flat (gs.take i)).length ≤ (flat gs).length := (flat_sub gs i).length_le
end
theorem dlook_map (f : Str → D) (x : Str) : ∀ l : List Str, x ∈ l → dlook (l.map .str) (l.map f) (.inr x) = some (f x)
  | [], h => by simp at h
  | a :: l, h => by
    rw [List.map_cons, List.map_cons]
    unfold dlook
    by_cases z : a = x
    · subst z
      exact if_pos rfl
    · rw [if_neg (show ¬ keyK (D.str a) = some (.inr x) from fun e => z (Sum.inr.inj (Option.some.inj e)))]
      rcases List.mem_cons.mp h with y | y
      · exact absurd y.symm z
      · exact dlook_map f x l y
theorem intsD_map : ∀ ns : List Int, intsD (ns.map .int) = some ns
  | [] => rfl
  | n :: ns => by
    rw [List.map_cons]
    unfold intsD
    rw [intsD_map ns]
    rfl
theorem sort_nodup {ns : List Int} (h : ns.Nodup) {l : List Int} (k : ∀ x, x ∈ ns ↔ x ∈ l) : (ns.mergeSort fun a b => decide (a ≤ b)) = sortU l := by
  refine asc_uniq ?_ (sortU_asc l) fun x => ?_
  · have p : (ns.mergeSort fun a b => decide (a ≤ b)).Perm ns := List.mergeSort_perm _ _
    have nd := p.nodup_iff.mpr h
    exact ((mergeSort_le ns).and nd).imp fun ⟨h1, h2⟩ => by omega
  · rw [sortU_mem, ← k, (List.mergeSort_perm _ _).mem_iff]
theorem nodup_le {α : Type} [DecidableEq α] : ∀ {l r : List α}, l.Nodup → (∀ x ∈ l, x ∈ r) → l.length ≤ r.length
  | [], r, _, _ => Nat.zero_le _
  | a :: l, r, h, k => by
    rw [List.nodup_cons] at h
    have ha := k a List.mem_cons_self
    have ih := nodup_le (l := l) (r := r.erase a) h.2 fun x hx => by
      have : x ≠ a := fun e => h.1 (e ▸ hx)
      exact (List.mem_erase_of_ne this).mpr (k x (List.mem_cons_of_mem _ hx))
    rw [List.length_erase_of_mem ha] at ih
    have : 0 < r.length := List.length_pos_of_mem ha
    rw [List.length_cons]
    omega
/-! ### a row told apart by ranks -/
def parts (l : List Str) (r : Str → Int) : List (List Str) := (sortU (l.map r)).map fun k => sortS (l.filter fun x => decide (r x = k))
theorem parts_flat_mem {l : List Str} {r : Str → Int} {x : Str} : x ∈ (parts l r).flatten ↔ x ∈ l := by
  unfold parts
  rw [List.mem_flatten]
  constructor
  · rintro ⟨g, hg, hx⟩
    obtain ⟨k, _, rfl⟩ := List.mem_map.mp hg
    exact (List.mem_filter.mp ((sortS_mem _ x).mp hx)).1
  · intro hx
    refine ⟨_, List.mem_map.mpr ⟨r x, ?_, rfl⟩, (sortS_mem _ x).mpr (List.mem_filter.mpr ⟨hx, by simp⟩)⟩
    rw [sortU_mem]
    exact List.mem_map.mpr ⟨x, hx, rfl⟩
theorem parts_nodup {l : List Str} {r : Str → Int} (h : l.Nodup) : (parts l r).flatten.Nodup := by
  unfold parts
  rw [List.Nodup, List.pairwise_flatten]
  refine ⟨fun g hg => ?_, ?_⟩
  · obtain ⟨k, _, rfl⟩ := List.mem_map.mp hg
    exact (sortS_perm _).nodup_iff.mpr (h.filter _)
  · rw [List.pairwise_map]
    refine (sortU_asc (l.map r)).imp fun {a b} hab x hx y hy e => ?_
    subst e
    have h1 := (List.mem_filter.mp ((sortS_mem _ x).mp hx)).2
    have h2 := (List.mem_filter.mp ((sortS_mem _ x).mp hy)).2
    simp at h1 h2
    omega
theorem nodup_flat {α : Type} {gs : List (List α)} : (flat gs).Nodup ↔ (∀ g ∈ gs, g.Nodup) ∧ gs.Pairwise fun a b => ∀ x ∈ a, ∀ y ∈ b, x ≠ y := by
  unfold flat List.Nodup
  rw [List.pairwise_flatten]
theorem ltS_irrefl (a : Str) : ¬ ltS a a = true := by
  unfold ltS
  rw [decide_eq_true_eq]
  exact List.lt_irrefl _
theorem ltS_trans {a b c : Str} (h1 : ltS a b = true) (h2 : ltS b c = true) : ltS a c = true := by
  unfold ltS at *
  rw [decide_eq_true_eq] at *
  exact List.lt_trans h1 h2
theorem ltS_asymm {a b : Str} (h1 : ltS a b = true) (h2 : ltS b a = true) : False := ltS_irrefl a (ltS_trans h1 h2)
/-- ascending rows with the same names are the same -/
theorem ascS_uniq : ∀ {l r : List Str}, l.Pairwise (fun a b => ltS a b = true) → r.Pairwise (fun a b => ltS a b = true) → (∀ x, x ∈ l ↔ x ∈ r) → l = r
  | [], [], _, _, _ => rfl
  | [], b :: r, _, _, h => by
    have := (h b).mpr (by simp)
    simp at this
  | a :: l, [], _, _, h => by
    have := (h a).mp (by simp)
    simp at this
  | a :: l, b :: r, h1, h2, h => by
    rw [List.pairwise_cons] at h1 h2
    have hab : a = b := by
      rcases List.mem_cons.mp ((h a).mp (by simp)) with e | e
      · exact e
      · rcases List.mem_cons.mp ((h b).mpr (by simp)) with e' | e'
        · exact e'.symm
        · exact (ltS_asymm (h1.1 b e') (h2.1 a e)).elim
    subst hab
    rw [ascS_uniq h1.2 h2.2 fun x => ?_]
    have := h x
    simp only [List.mem_cons] at this
    constructor
    · intro hx
      rcases this.mp (.inr hx) with e | e
      · subst e
        exact (ltS_irrefl _ (h1.1 _ hx)).elim
      · exact e
    · intro hx
      rcases this.mpr (.inr hx) with e | e
      · subst e
        exact (ltS_irrefl _ (h2.1 _ hx)).elim
      · exact e
theorem asc_nodup {l : List Str} (h : l.Pairwise fun a b => ltS a b = true) : l.Nodup := h.imp fun {a b} hab e => by
  subst e
  exact ltS_irrefl _ hab
theorem sortS_of {l : List Str} (h : l.Pairwise fun a b => ltS a b = true) : sortS l = l := ascS_uniq (sortS_lt (asc_nodup h)) h fun x => sortS_mem l x
theorem nodup_perm {α : Type} [DecidableEq α] : ∀ {l r : List α}, l.Nodup → r.Nodup → (∀ x, x ∈ l ↔ x ∈ r) → l.Perm r
  | [], r, _, _, h => by
    cases r with
    | nil => exact .refl _
    | cons b r => have := (h b).mpr (by simp); simp at this
  | a :: l, r, h1, h2, h => by
    have ha := (h a).mp (by simp)
    have p := List.perm_cons_erase ha
    rw [List.nodup_cons] at h1
    refine ((nodup_perm h1.2 (h2.erase a) fun x => ?_).cons a).trans p.symm
    rw [h2.mem_erase_iff]
    have := h x
    simp only [List.mem_cons] at this
    constructor
    · intro hx
      exact ⟨fun e => h1.1 (e ▸ hx), this.mp (.inr hx)⟩
    · rintro ⟨hx, hr⟩
      rcases this.mpr hr with e | e
      · exact absurd e hx
      · exact e
end Qd
end
section
set_option Elab.async false
set_option linter.all false
set_option autoImplicit false
set_option maxRecDepth 100000
namespace Sp
open PySem PySem.Spec PyProof.Rows L2 Qd
def nameOk (s : Str) : Bool := decide (1 ≤ s.length ∧ s.length ≤ 8) && ((match s.cps.toList[0]? with
    | some c => decide (c ∈ (Str.ofString "abcdefghijklmnopqrstuvwxyz").cps)
    | none => false) && s.cps.all fun a => decide (a ∈ (Str.ofString "abcdefghijklmnopqrstuvwxyz0123456789").cps))
theorem slen (s : Str) : s.length = s.cps.toList.length := by
  show s.cps.size = _
  simp
theorem is_name_str (s : Str) (m : MS) : F_is_name [.str s] m = .ok (.bl (nameOk s)) [] m := by
  unfold F_is_name nameOk
  by_cases h : 1 ≤ s.length ∧ s.length ≤ 8
  · obtain ⟨c, r, hc⟩ : ∃ c r, s.cps.toList = c :: r := by
      rw [slen] at h
      cases q : s.cps.toList with
      | nil => rw [q] at h; simp at h
      | cons c r => exact ⟨c, r, rfl⟩
    have h1 : s.cps.toList[0]? = some c := by rw [hc]; rfl
    have h2 : (1 : Int) ≤ s.length := by omega
    have h3 : (s.length : Int) ≤ 8 := by omega
    rw [h1]
    simp [defF_out, b_is_name, h1, h2, h3, signs_is, h]
  · have h2 : ¬ ((1 : Int) ≤ s.length) ∨ ¬ ((s.length : Int) ≤ 8) := by omega
    by_cases h3 : (1 : Int) ≤ s.length
    · have h4 : ¬ ((s.length : Int) ≤ 8) := by omega
      simp [defF_out, b_is_name, h3, h4, h]
    · simp [defF_out, b_is_name, h3, h]
/-- ascending names -/
def ascL (l : List Str) : Bool := (List.range (l.length - 1)).all fun i => match l[i]?, l[i + 1]? with
  | some a, some b => ltS a b
  | _, _ => false
structure Grp (g : List Str) : Prop where
  ne : g ≠ []
  nm : ∀ x ∈ g, nameOk x = true
  asc : g.Pairwise fun a b => ltS a b = true
  le : g.length ≤ 100
theorem group_ok {g : List Str} (h : Grp g) (m : MS) : F_is_group [dN g] m = .ok (.bl true) [] m := by
  unfold F_is_group
  have h0 : 0 < g.length := List.length_pos_iff.mpr h.ne
  have e1 : ((g.length : Int) - 1) = ((g.length - 1 : Nat) : Int) := by omega
  have h1 : (g.all fun a => nameOk a) = true := List.all_eq_true.mpr h.nm
  have h2 : -4611686018427387904 ≤ ((g.length - 1 : Nat) : Int) ∧ ((g.length - 1 : Nat) : Int) ≤ 16777216 := by have := h.le; omega
  simp [defF_out, b_is_group, is_name_str, h.ne, h1, e1, h2, rangeD_map]
  rw [lcR_on (p := fun _ => true) (g := fun _ => .bl true) (fun _ _ => rfl)]
  · simp
  · intro i hi _
    have hi := List.mem_range.mp hi
    have e1 : g[i]? = some g[i] := List.getElem?_eq_getElem (by omega)
    have e2 : g[i + 1]? = some g[i + 1] := List.getElem?_eq_getElem (by omega)
    have e3 : ltS g[i] g[i + 1] = true := List.pairwise_iff_getElem.mp h.asc i (i + 1) (by omega) (by omega) (by omega)
    simp [e1, e2, e3]
/-! ### groups -/
structure Grps (gs : List (List Str)) : Prop where
  ne : gs ≠ []
  g : ∀ g ∈ gs, Grp g
  nd : (flat gs).Nodup
  le : (flat gs).length ≤ 8
theorem groups_ok {gs : List (List Str)} (h : Grps gs) (m : MS) : F_wrong_group [dG gs] m = .ok (.int (-1)) [] m := by
  unfold F_wrong_group
  simp [defF_out, b_wrong_group, h.ne]
  refine for_state (k := fun u => (U.sq u).out = _) (fun i e m1 => e = [some (.fz (dG gs)), some (.fz (.lst ((flat (gs.take i)).map D.str))), none, none, none] ∧ m1 = m) ⟨by simp [flat_nil], rfl⟩ ?_ ?_
  · rintro i ⟨g, j⟩ e m1 hg ⟨rfl, rfl⟩
    obtain ⟨hg, rfl⟩ := zip_at hg
    have hgm : g ∈ gs := List.mem_of_getElem? hg
    have ft := flat_take hg
    have fl := flat_le gs (j + 1)
    have fs := (flat_sub gs (j + 1)).nodup h.nd
    rw [ft] at fl fs
    rw [List.length_append] at fl
    have h8 := h.le
    have dj : g.any (fun a => decide (a ∈ flat (gs.take j))) = false := by
      rw [List.any_eq_false]
      intro x hx
      simp only [decide_eq_true_eq]
      exact fun hy => (List.nodup_append.mp fs).2.2 x hy x hx rfl
    have h9 : ¬ (8 : Int) < ((flat (gs.take j)).length : Int) + (g.length : Int) := by omega
    have h10 : (flat (gs.take j)).length + g.length ≤ 16777216 := by omega
    rw [ft]
    generalize flat (gs.take j) = ns at *
    refine ⟨_, _, ?_, rfl, rfl⟩
    have h11 : ns.length ≤ 16777216 := by omega
    simp [group_ok (h.g g hgm), dj, h9, h10, -List.any_eq_false]
  · rintro e m1 ⟨rfl, rfl⟩
    simp
/-! ### a deed is made -/
/-- the place of the group that has the name -/
def rkO : List (List Str) → Str → Nat
  | [], _ => 0
  | g :: gs, x => if x ∈ g then 0 else rkO gs x + 1
/-- names with numbers -/
def rk (l : List Str) (r : Str → Int) : D := .dic (l.map .str) (l.map fun x => .int (r x))
def dD (gs : List (List Str)) : D := .ins "Deed" ["parted", "ranks"] [dG gs, rk (flat gs) fun x => (rkO gs x : Nat)]
theorem dcB_ranks {m : MS} : ∀ (gs : List (List Str)) (k : Nat) (l : List Str) (us : List D), (l ++ flat gs).Nodup →
    dcB (fun _ m => .ok true [] m) (fun (p : List Str × Nat) q m => dcR (fun _ m => .ok true [] m) (fun a m => .ok (.str a) [] m) (fun _ m => .ok (.int (p.2 : Nat)) [] m) p.1 q m) (gs.zipIdx k) (l.map .str, us) m =
      .ok ((l ++ flat gs).map .str, us ++ (flat gs).map fun x => .int ((k + rkO gs x : Nat) : Int)) [] m
  | [], k, l, us, _ => by simp [dcB, flat_nil]
  | g :: gs, k, l, us, h => by
    rw [flat_cons, ← List.append_assoc] at h
    have h1 : (l ++ g).Nodup := (List.nodup_append.mp h).1
    have hd : ∀ x ∈ (flat gs), ¬ x ∈ g := fun x hx hy => (List.nodup_append.mp h).2.2 x (List.mem_append_right _ hy) x hx rfl
    have e1 := dcR_str (nm := fun x : Str => x) (v := fun _ => D.int (k : Nat)) (m := m) (as := g) (l := l) (us := us) (by simpa using h1)
    simp only [List.map_id'] at e1
    rw [List.zipIdx_cons]
    unfold dcB
    simp only [R.bindN_ok, if_true, e1]
    rw [dcB_ranks gs (k + 1) (l ++ g) _ h, flat_cons, List.append_assoc]
    congr 1
    congr 1
    rw [List.map_append, List.append_assoc]
    congr 1
    congr 1
    · apply List.map_congr_left
      intro x hx
      rw [rkO, if_pos hx]
      rfl
    · apply List.map_congr_left
      intro x hx
      rw [rkO, if_neg (hd x hx)]
      congr 2
      omega
theorem init_ok {gs : List (List Str)} (h : Grps gs) (m : MS) : I_Deed_init [dG gs] m = .ok (["parted", "ranks"], [dG gs, rk (flat gs) fun x => (rkO gs x : Nat)]) [] m := by
  have e1 := dcB_ranks (m := m) gs 0 [] [] (by simpa using h.nd)
  simp only [List.map_nil, List.nil_append, Nat.zero_add] at e1
  have hl : (flat gs).length < 16777216 := by have := h.le; omega
  have hn : hasN [Str.ofString "parted"] (Str.ofString "ranks") = false := by decide +kernel
  unfold I_Deed_init
  simp [initF_out, b_Deed_init, groups_ok h, hn]
  rw [e1]
  simp [hl, hn, rk]
/-- a deed is made, by its class -/
theorem made_ok {gs : List (List Str)} (h : Grps gs) (e : Qd.Env) (m : MS) : madeG "Deed" I_Deed_init [dG gs] e m = .ok (dD gs) e m := by
  unfold madeG
  rw [init_ok h]
  rfl
theorem parted_is (gs : List (List Str)) : fldG "Deed" "parted" (dD gs) = some (dG gs) := rfl
theorem ranks_is (gs : List (List Str)) : fldG "Deed" "ranks" (dD gs) = some (rk (flat gs) fun x => (rkO gs x : Nat)) := rfl
theorem insD (gs : List (List Str)) : insIs "Deed" "" (dD gs) = true := rfl
theorem insD_only (gs : List (List Str)) : insIs "Deed" "only" (dD gs) = true := rfl
theorem groups_prop (gs : List (List Str)) (m : MS) : F_Deed_groups [dD gs] m = .ok (dG gs) [] m := by
  unfold F_Deed_groups
  simp [defF_out, b_Deed_groups, parted_is]
/-- all things, ascending -/
def thg (gs : List (List Str)) : List Str := sortS (flat gs)
theorem things_prop {gs : List (List Str)} (h : (flat gs).length ≤ 1000) (m : MS) : F_Deed_things [dD gs] m = .ok (dN (thg gs)) [] m := by
  unfold F_Deed_things thg
  have h1 : (flat gs).length ≤ 16777216 := by omega
  simp [defF_out, b_Deed_things, parted_is, h1]
theorem ix_dic {L : List Str} {r : Str → Int} {x : Str} (h : x ∈ L) (e : Qd.Env) (m : MS) : ixG (rk L r) (.str x) e m = .ok (.int (r x)) e m := by
  show fin (dlook _ _ _) e m = _
  rw [dlook_map (fun x => D.int (r x)) x L h]
  rfl
theorem intsD_map : ∀ ns : List Int, intsD (ns.map .int) = some ns
  | [] => rfl
  | n :: ns => by
    rw [List.map_cons]
    unfold intsD
    rw [intsD_map ns]
    rfl
theorem srt_keys {ns : List Int} {us : List D} (h : ns.length < 64) : srtDG [.dic (ns.map .int) us] = some (.lst ((ns.mergeSort fun a b => decide (a ≤ b)).map .int)) := by
  unfold srtDG
  simp only [intsD_map]
  rw [if_pos h]
theorem grouped_ok {l L : List Str} (hl : l.length < 64) (hs : ∀ x ∈ l, x ∈ L) (r : Str → Int) (m : MS) : F_grouped [dN l, rk L r] m = .ok (dG (parts l r)) [] m := by
  obtain ⟨us, hu⟩ := dcR_int (r := r) (v := .bl true) (m := m) (as := l) (l := []) (us := [])
  have hn := uqI_nd (l.map r) [] List.nodup_nil
  have hm := uqI_mem (l.map r) []
  have hz := uqI_len (l.map r) []
  rw [List.length_map] at hz
  simp only [List.map_nil] at hu
  have hso := sort_nodup hn (l := l.map r) fun x => by rw [hm]; simp
  have hk := srt_keys (ns := uqI (l.map r) []) (us := us) (by simp at hz; omega)
  rw [hso] at hk
  have e1 : ∀ (E : Str → Qd.Env), dcR (fun _ m => .ok true [] m) (fun a m => R.pu (E a) (ixG (rk L r) (.str a) (E a) m)) (fun _ m => .ok (.bl true) [] m) l ([], []) m = .ok ((uqI (l.map r) []).map .int, us) [] m := by
    intro E
    rw [← hu]
    refine dcR_congr rfl (fun _ _ _ => rfl) (fun a ha m => ?_) fun _ _ _ => rfl
    rw [ix_dic (hs a ha), R.pu_ok]
  unfold F_grouped
  simp [defF_out, b_grouped, e1, hk]
  refine for_state (k := fun u => (U.sq u).out = _) (fun i e m1 => e = [some (.fz (dN l)), some (.fz (rk L r)), some (.ol (((parts l r).take i).map dN)), none, none] ∧ m1 = m) ⟨by simp, rfl⟩ ?_ ?_
  · rintro i k e m1 hk ⟨rfl, rfl⟩
    have hg : (parts l r)[i]? = some (sortS (l.filter fun x => decide (r x = k))) := by
      unfold parts
      rw [List.getElem?_map, hk]
      rfl
    have hf : (l.filter fun x => decide (r x = k)).length ≤ 16777216 := by
      have := List.length_filter_le (fun x => decide (r x = k)) l
      omega
    have hi : ((parts l r).take i).length < 16777216 := by
      have h1 := sortU_len (l.map r)
      have h2 : ((parts l r).take i).length ≤ (parts l r).length := by rw [List.length_take]; omega
      have h3 : (parts l r).length = (sortU (l.map r)).length := by unfold parts; rw [List.length_map]
      rw [List.length_map] at h1
      omega
    refine ⟨_, _, ?_, rfl, rfl⟩
    rw [List.take_add_one, hg]
    generalize (parts l r).take i = ps at *
    simp
    rw [lcR_on (p := fun a => decide (r a = k)) (g := D.str)]
    · simp [hf, hi]
    · intro a ha
      simp [ix_dic (hs a ha)]
    · intro a ha _
      simp
  · rintro e m1 ⟨rfl, rfl⟩
    have h3 : (parts l r).length = (sortU (l.map r)).length := by unfold parts; rw [List.length_map]
    rw [← h3]
    simp
/-! ### an order behind a deed -/
def doneL (gs : List (List Str)) (l : List Str) : List Str := gs.flatMap fun g => l.filter fun x => decide (x ∈ g)
theorem done_ok {gs : List (List Str)} {l : List Str} (h : (doneL gs l).length ≤ 1000) (m : MS) : F_done [dG gs, dN l] m = .ok (dN (doneL gs l)) [] m := by
  unfold F_done doneL at *
  have h1 : (gs.flatMap fun g => l.filter fun x => decide (x ∈ g)).length ≤ 16777216 := by omega
  simp [defF_out, b_done, h1, -List.length_flatMap]
theorem is_thing_ok (l : List Str) (x : Str) (m : MS) : F_is_thing [.str x, dN l] m = .ok (.bl (decide (x ∈ l))) [] m := by
  unfold F_is_thing
  simp [defF_out, b_is_thing]
theorem not_in_take {l : List Str} (h : l.Nodup) {i : Nat} {x : Str} (hx : l[i]? = some x) : ¬ x ∈ l.take i := by
  intro z
  obtain ⟨j, hj, e⟩ := List.getElem_of_mem z
  rw [List.length_take] at hj
  obtain ⟨hi, e2⟩ := List.getElem?_eq_some_iff.mp hx
  rw [List.getElem_take] at e
  have := (List.getElem_inj h).mp (e.trans e2.symm)
  omega
theorem order_ok' {l s : List Str} (h : l.Perm s) (nd : s.Nodup) (m : MS) : F_wrong_in_order [dN l, dN s] m = .ok (.int (-1)) [] m := by
  unfold F_wrong_in_order
  simp [defF_out, b_wrong_in_order]
  rw [runFor_keep]
  · have := h.length_eq
    simp [this]
  · rintro ⟨x, i⟩ hx
    have hx := zip_mem hx
    have h1 : x ∈ s := h.mem_iff.mp (List.mem_of_getElem? hx)
    have h2 := not_in_take (h.nodup_iff.mpr nd) hx
    simp [is_thing_ok, h1, oSome, cut_to, ← List.map_take, h2]
theorem check_order_ok {l s : List Str} (h : l.Perm s) (nd : s.Nodup) (m : MS) : F_check_order [dN l, dN s] m = .ok .non [] m := by
  unfold F_check_order
  simp [defF_out, b_check_order, order_ok' h nd]
theorem thg_perm (gs : List (List Str)) : (thg gs).Perm (flat gs) := sortS_perm _
theorem Grps.len {gs : List (List Str)} (h : Grps gs) : (flat gs).length ≤ 1000 := by have := h.le; omega
theorem mem_doneL {gs : List (List Str)} {l : List Str} {x : Str} : x ∈ doneL gs l ↔ x ∈ l ∧ x ∈ flat gs := by
  unfold doneL
  rw [List.mem_flatMap, mem_flat]
  constructor
  · rintro ⟨g, hg, hx⟩
    have := List.mem_filter.mp hx
    exact ⟨this.1, g, hg, by simpa using this.2⟩
  · rintro ⟨hl, g, hg, hx⟩
    exact ⟨g, hg, List.mem_filter.mpr ⟨hl, by simpa using hx⟩⟩
theorem doneL_nodup {gs : List (List Str)} {l : List Str} (h : (flat gs).Nodup) (hl : l.Nodup) : (doneL gs l).Nodup := by
  obtain ⟨h1, h2⟩ := nodup_flat.mp h
  have : doneL gs l = flat (gs.map fun g => l.filter fun x => decide (x ∈ g)) := by unfold doneL flat; rw [List.flatMap_def]
  rw [this, nodup_flat]
  refine ⟨fun g hg => ?_, ?_⟩
  · obtain ⟨k, _, rfl⟩ := List.mem_map.mp hg
    exact hl.filter _
  · rw [List.pairwise_map]
    refine h2.imp fun {a b} hab x hx y hy => hab x ?_ y ?_
    · simpa using (List.mem_filter.mp hx).2
    · simpa using (List.mem_filter.mp hy).2
theorem doneL_perm {gs : List (List Str)} {l : List Str} (h : (flat gs).Nodup) (hl : l.Nodup) (hs : ∀ x ∈ l, x ∈ flat gs) : (doneL gs l).Perm l :=
  nodup_perm (doneL_nodup h hl) hl fun x => by rw [mem_doneL]; exact ⟨fun z => z.1, fun z => ⟨z, hs x z⟩⟩
theorem call_ok {gs : List (List Str)} {l : List Str} (h : Grps gs) (hl : l.Perm (thg gs)) (m : MS) : F_Deed_call [dD gs, dN l] m = .ok (dN (doneL gs l)) [] m := by
  unfold F_Deed_call
  have h2 : (thg gs).Nodup := (thg_perm gs).nodup_iff.mpr h.nd
  have h4 := hl.trans (thg_perm gs)
  have h3 : (doneL gs l).length ≤ 1000 := by
    rw [(doneL_perm h.nd (h4.nodup_iff.mpr h.nd) fun x hx => h4.mem_iff.mp hx).length_eq, h4.length_eq]
    exact h.len
  simp [defF_out, b_Deed_call, insD, things_prop h.len, check_order_ok hl h2, parted_is, done_ok h3]
/-! ### only -/
theorem check_things_ok {l s : List Str} (h : l ≠ []) (hs : ∀ x ∈ l, x ∈ s) (hp : l.Pairwise fun a b => ltS a b = true) (m : MS) : F_check_things [dN l, dN s] m = .ok .non [] m := by
  unfold F_check_things
  simp [defF_out, b_check_things, h]
  rw [runFor_keep]
  · rfl
  · rintro ⟨x, i⟩ hx
    have hx := zip_mem hx
    have h1 : x ∈ s := hs x (List.mem_of_getElem? hx)
    by_cases hi : 0 < i
    · have e1 : ((i : Int) - 1) = ((i - 1 : Nat) : Int) := by omega
      obtain ⟨hl, ex⟩ := List.getElem?_eq_some_iff.mp hx
      have e2 : l[i - 1]? = some l[i - 1] := List.getElem?_eq_getElem (by omega)
      have e3 : ltS l[i - 1] l[i] = true := List.pairwise_iff_getElem.mp hp (i - 1) i (by omega) hl (by omega)
      rw [ex] at e3
      have e4 : l[i - 1].cps.toList < x.cps.toList := by unfold ltS at e3; exact of_decide_eq_true e3
      simp [is_thing_ok, h1, hi, e1, e2, e4]
    · have : i = 0 := by omega
      subst this
      simp [is_thing_ok, h1]
theorem parts_mem {l : List Str} {r : Str → Int} {g : List Str} (hg : g ∈ parts l r) : ∃ k, g = sortS (l.filter fun x => decide (r x = k)) ∧ ∃ x ∈ l, r x = k := by
  unfold parts at hg
  obtain ⟨k, hk, rfl⟩ := List.mem_map.mp hg
  rw [sortU_mem] at hk
  obtain ⟨x, hx, e⟩ := List.mem_map.mp hk
  exact ⟨k, rfl, x, hx, e⟩
theorem parts_flat {l : List Str} {r : Str → Int} {x : Str} : x ∈ flat (parts l r) ↔ x ∈ l := parts_flat_mem
theorem parts_nd {l : List Str} {r : Str → Int} (h : l.Nodup) : (flat (parts l r)).Nodup := parts_nodup h
theorem parts_perm {l : List Str} {r : Str → Int} (h : l.Nodup) : (flat (parts l r)).Perm l := nodup_perm (parts_nd h) h fun x => parts_flat
theorem parts_ok {l : List Str} (nd : l.Nodup) (ne : l ≠ []) (le : l.length ≤ 8) (nm : ∀ x ∈ l, nameOk x = true) (r : Str → Int) : Grps (parts l r) where
  ne := fun h => by
    obtain ⟨x, hx⟩ := List.exists_mem_of_ne_nil l ne
    have := (parts_flat (l := l) (r := r)).mpr hx
    rw [h] at this
    simp [flat_nil] at this
  g := fun g hg => by
    obtain ⟨k, rfl, x, hx, e⟩ := parts_mem hg
    have hm : ∀ x, x ∈ sortS (l.filter fun x => decide (r x = k)) → x ∈ l := fun x hx => (List.mem_filter.mp ((sortS_mem _ x).mp hx)).1
    refine ⟨fun h => ?_, fun x hx => nm x (hm x hx), sortS_lt (nd.filter _), ?_⟩
    · have : x ∈ sortS (l.filter fun x => decide (r x = k)) := (sortS_mem _ x).mpr (List.mem_filter.mpr ⟨hx, by simp [e]⟩)
      rw [h] at this
      simp at this
    · rw [sortS_len]
      have := List.length_filter_le (fun x => decide (r x = k)) l
      omega
  nd := parts_nd nd
  le := by rw [(parts_perm nd).length_eq]; exact le
theorem Grps.nm {gs : List (List Str)} (h : Grps gs) {x : Str} (hx : x ∈ flat gs) : nameOk x = true := by
  obtain ⟨g, hg, hx⟩ := mem_flat.mp hx
  exact (h.g g hg).nm x hx
theorem only_ok {gs : List (List Str)} {l : List Str} (h : Grps gs) (hn : l ≠ []) (hs : ∀ x ∈ l, x ∈ thg gs) (hp : l.Pairwise fun a b => ltS a b = true) (m : MS) : F_Deed_only [dD gs, dN l] m = .ok (dD (parts l fun x => (rkO gs x : Nat))) [] m := by
  unfold F_Deed_only
  have hs' : ∀ x ∈ l, x ∈ flat gs := fun x hx => (thg_perm gs).mem_iff.mp (hs x hx)
  have nd := asc_nodup hp
  have h8 : l.length ≤ 8 := Nat.le_trans (nodup_le nd hs') h.le
  have hg : l.length < 64 := by omega
  have P := parts_ok nd hn h8 (fun x hx => h.nm (hs' x hx)) fun x => (rkO gs x : Nat)
  simp [defF_out, b_Deed_only, insD, things_prop h.len, check_things_ok hn hs hp, ranks_is, grouped_ok hg hs', made_ok P]
theorem Grps.rev {gs : List (List Str)} (h : Grps gs) : Grps gs.reverse := by
  have p : (flat gs.reverse).Perm (flat gs) := by
    unfold flat
    exact (List.reverse_perm gs).flatten
  exact ⟨by simpa using h.ne, fun g hg => h.g g (by simpa using hg), p.nodup_iff.mpr h.nd, by rw [p.length_eq]; exact h.le⟩
theorem neg_ok {gs : List (List Str)} (h : Grps gs) (m : MS) : F_Deed_neg [dD gs] m = .ok (dD gs.reverse) [] m := by
  unfold F_Deed_neg
  simp [defF_out, b_Deed_neg, parted_is, ← List.map_reverse, made_ok h.rev]
theorem isD_D (hs : List (List Str)) : isCB (clsB "Deed") (dD hs) = some (.bl true) := rfl
theorem othD (hs : List (List Str)) : othOk clsQ (dD hs) = true := by
  show decide (("Deed" : Str) ∈ clsQ) = true
  decide +kernel
theorem eq_ok (gs hs : List (List Str)) (m : MS) : F_Deed_eq [dD gs, dD hs] m = .ok (.bl (decide (gs = hs))) [] m := by
  unfold F_Deed_eq
  simp [defF_out, b_Deed_eq, parted_is, isD_D]
end Sp
end
section
set_option Elab.async false
set_option linter.all false
set_option autoImplicit false
set_option maxRecDepth 100000
namespace Sp
open PySem PySem.Spec PyProof.Rows L2 Qd
/-! what the laws draw -/
/-- the purse at j -/
def Pur (j : Nat) (m : MS) : Prop := ∃ b s : Int, m[j]? = some (.lst [.int b, .int s]) ∧ 0 ≤ b ∧ 0 ≤ s
theorem ix0 (a b : D) : L2.atI [a, b] 0 = some a := rfl
theorem ix1 (a b : D) : L2.atI [a, b] 1 = some b := rfl
/-- the draw's steps keep the purse, change nothing else -/
structure Go (j : Nat) (m m' : MS) : Prop where
  p : Pur j m'
  len : m'.length = m.length
theorem Go.trans {j : Nat} {m m1 m2 : MS} (a : Go j m m1) (b : Go j m1 m2) : Go j m m2 := ⟨b.p, b.len.trans a.len⟩
theorem Go.refl {j : Nat} {m : MS} (h : Pur j m) : Go j m m := ⟨h, rfl⟩
theorem draw_ok {j : Nat} {m : MS} {n : Int} (h : Pur j m) (h1 : 1 ≤ n) (h2 : n < 1073741824) : ∃ k m', F_law_draw [.obj j, .int n] m = .ok (.int (k : Nat)) [] m' ∧ (k : Int) < n ∧ Go j m m' := by
  obtain ⟨b, s, hm, hb, hs⟩ := h
  have hj : j < m.length := (List.getElem?_eq_some_iff.mp hm).1
  have h0 : 0 < n := by omega
  have e1 : ∀ x, (m.set j x)[j]? = some x := fun x => List.getElem?_set_self hj
  have nn : ∀ x : Int, 0 ≤ x → ((x.toNat : Nat) : Int) = x := fun x h => Int.toNat_of_nonneg h
  unfold F_law_draw
  by_cases hb0 : 0 < b
  · have z := Int.emod_nonneg b (show n ≠ 0 by omega)
    have y := Int.emod_lt_of_pos b h0
    refine ⟨(b % n).toNat, m.set j (.lst [.int (b / n), .int s]), ?_, by omega, ⟨⟨b / n, s, e1 _, Int.ediv_nonneg hb (by omega), hs⟩, by simp⟩⟩
    rw [nn _ z]
    simp [defF_out, b_law_draw, ixG, hm, ix0, hb0, h0, h2, hT, hsCons, hObj, hsNil]
  · have z := Int.emod_nonneg ((s * 69621 + 40503) % 2147483647 / 1024) (show n ≠ 0 by omega)
    have y := Int.emod_lt_of_pos ((s * 69621 + 40503) % 2147483647 / 1024) h0
    refine ⟨((s * 69621 + 40503) % 2147483647 / 1024 % n).toNat, m.set j (.lst [.int b, .int ((s * 69621 + 40503) % 2147483647)]), ?_, by omega, ⟨⟨b, _, e1 _, hb, Int.emod_nonneg _ (by omega)⟩, by simp⟩⟩
    rw [nn _ z]
    simp [defF_out, b_law_draw, ixG, hm, ix0, ix1, hb0, h0, hObj, e1]
theorem map_erase {α β : Type} (f : α → β) : ∀ (l : List α) (j : Nat), (l.map f).eraseIdx j = (l.eraseIdx j).map f
  | [], j => by simp
  | a :: l, 0 => by simp
  | a :: l, j + 1 => by simp [map_erase f l j]
theorem seqIxN (k n : Nat) (h : k < n) : seqIndex? (k : Int) n = some k := by
  have := seqIx (k := (k : Int)) (n := n) (by omega) (by omega)
  simpa using this
/-- one is drawn out of a row, put behind another -/
theorem order_ok {j : Nat} {m : MS} {l : List Str} (h : Pur j m) (hl : l.length ≤ 100) : ∃ l' m', F_law_order [.obj j, dN l] m = .ok (dN l') [] m' ∧ l'.Perm l ∧ Go j m m' := by
  suffices Ends (fun d m' => ∃ l', d = dN l' ∧ l'.Perm l ∧ Go j m m') (F_law_order [.obj j, dN l] m) by
    obtain ⟨_, m', e, l', rfl, h⟩ := this
    exact ⟨l', m', e, h⟩
  unfold F_law_order
  have hz : (l.length : Int) ≤ 16777216 := by omega
  have hz2 : -4611686018427387904 ≤ (l.length : Int) := by omega
  simp [defF_out, b_law_order, hz, hz2]
  refine for_state (k := fun u => Ends _ (U.sq u).out) (fun i e m1 => ∃ a b : List Str, e = [some (.fz (.obj j)), some (.fz (dN l)), none, some (.ol (a.map .str)), some (.ol (b.map .str))] ∧ b.length = i ∧ (b ++ a).Perm l ∧ Go j m m1) ⟨l, [], rfl, rfl, .refl _, .refl h⟩ ?_ ?_
  · rintro i n e m1 hi ⟨a, b, rfl, h1, h2, h3⟩
    have hab : b.length + a.length = l.length := by rw [← List.length_append]; exact h2.length_eq
    have hin : i < l.length := by
      have := (List.getElem?_eq_some_iff.mp hi).1
      simpa using this
    obtain ⟨k, m2, q1, q2, q3⟩ := draw_ok (n := (a.length : Int)) h3.p (by omega) (by omega)
    have hk : k < a.length := by omega
    have hx : a[k]? = some a[k] := List.getElem?_eq_getElem hk
    have q7 : -9223372036854775808 ≤ (k : Int) ∧ (k : Int) < 9223372036854775808 := by omega
    have q8 : b.length < 16777216 := by omega
    refine ⟨_, m2, ?_, a.eraseIdx k, b ++ [a[k]], rfl, by simp [h1], ?_, h3.trans q3⟩
    · simp [q1, seqIxN k a.length hk, hx, q7, q8, map_erase]
    · refine List.Perm.trans ?_ h2
      rw [List.append_assoc]
      exact List.Perm.append_left b (erase_perm hx)
  · rintro e m1 ⟨a, b, rfl, h1, h2, h3⟩
    have ha : a = [] := by
      have := h2.length_eq
      rw [List.length_append, h1] at this
      simp at this
      exact this
    subst ha
    simp
    exact ⟨b, rfl, by simpa using h2, h3⟩
def pool : List Str := ["a", "a0", "aa", "ab", "b", "b9", "ba", "c", "d", "k1", "q", "zz", "zzzzzzzz"]
theorem pool_nd : pool.Nodup := by decide +kernel
theorem pool_ok : ∀ x ∈ pool, nameOk x = true := by decide +kernel
/-- things, ascending -/
structure Stk (l : List Str) : Prop where
  asc : l.Pairwise fun a b => ltS a b = true
  pl : ∀ x ∈ l, x ∈ pool
  le : l.length ≤ 8
  ne : l ≠ []
theorem Stk.nd {l : List Str} (h : Stk l) : l.Nodup := asc_nodup h.asc
/-- one to eight names, ascending -/
theorem things_ok {j : Nat} {m : MS} {n : Nat} (h : Pur j m) (h1 : 1 ≤ n) (h2 : n ≤ 8) : ∃ l m', F_law_things [.obj j, .int (n : Nat)] m = .ok (dN l) [] m' ∧ l.length = n ∧ Stk l ∧ Go j m m' := by
  suffices Ends (fun d m' => ∃ l, d = dN l ∧ l.length = n ∧ Stk l ∧ Go j m m') (F_law_things [.obj j, .int (n : Nat)] m) by
    obtain ⟨_, m', e, l, rfl, h⟩ := this
    exact ⟨l, m', e, h⟩
  unfold F_law_things
  have hz : (n : Int) ≤ 16777216 := by omega
  have hz2 : -4611686018427387904 ≤ (n : Int) := by omega
  simp [defF_out, b_law_things, hz, hz2]
  refine for_state (k := fun u => Ends _ (U.sq u).out) (fun i e m1 => ∃ a b : List Str, e = [some (.fz (.obj j)), some (.fz (.int n)), some (.ol (a.map .str)), some (.ol (b.map .str)), none] ∧ b.length = i ∧ (b ++ a).Perm pool ∧ Go j m m1) ⟨pool, [], rfl, rfl, .refl _, .refl h⟩ ?_ ?_
  · rintro i n' e m1 hi ⟨a, b, rfl, h3, h4, h5⟩
    have hab : b.length + a.length = 13 := by rw [← List.length_append]; exact h4.length_eq
    have hin : i < n := by
      have := (List.getElem?_eq_some_iff.mp hi).1
      simpa using this
    obtain ⟨k, m2, q1, q2, q3⟩ := draw_ok (n := (a.length : Int)) h5.p (by omega) (by omega)
    have hk : k < a.length := by omega
    have hx : a[k]? = some a[k] := List.getElem?_eq_getElem hk
    have q7 : -9223372036854775808 ≤ (k : Int) ∧ (k : Int) < 9223372036854775808 := by omega
    have q8 : b.length < 16777216 := by omega
    refine ⟨_, m2, ?_, a.eraseIdx k, b ++ [a[k]], rfl, by simp [h3], ?_, h5.trans q3⟩
    · simp [q1, seqIxN k a.length hk, hx, q7, q8, map_erase]
    · refine List.Perm.trans ?_ h4
      rw [List.append_assoc]
      exact List.Perm.append_left b (erase_perm hx)
  · rintro e m1 ⟨a, b, rfl, h3, h4, h5⟩
    rw [List.length_range] at h3
    have nd : b.Nodup := (List.nodup_append.mp (h4.nodup_iff.mpr pool_nd)).1
    have hb : b.length ≤ 16777216 := by omega
    simp [srtL_str b hb]
    refine ⟨sortS b, rfl, by rw [sortS_len, h3], ⟨sortS_lt nd, fun x hx => h4.mem_iff.mp (List.mem_append_left _ ((sortS_mem b x).mp hx)), by rw [sortS_len]; omega, fun e => ?_⟩, h5⟩
    have := sortS_len b
    rw [e] at this
    simp at this
    omega
/-! ### drawn groups -/
structure Gd (gs : List (List Str)) (l : List Str) : Prop where
  g : Grps gs
  p : (flat gs).Perm l
def sortI (l : List Int) : List Int := l.mergeSort fun a b => decide (a ≤ b)
theorem pdOs_int : ∀ l : List Int, pdOs (l.map .int) = some (l.map .int)
  | [] => rfl
  | a :: l => by rw [List.map_cons, pdOs, pdOs_int l]; rfl
theorem sortable_int (l : List Int) : sortable (l.map PyData.int) = true := by
  unfold sortable
  rw [Bool.and_eq_true, Bool.and_eq_true, Bool.or_eq_true]
  refine ⟨⟨?_, .inr ?_⟩, ?_⟩
  · rw [List.all_eq_true]
    intro p hp
    rw [List.all_eq_true]
    intro q hq
    obtain ⟨a, _, rfl⟩ := List.mem_map.mp hp
    obtain ⟨b, _, rfl⟩ := List.mem_map.mp hq
    rfl
  · rw [List.all_eq_true]
    intro p hp
    obtain ⟨a, _, rfl⟩ := List.mem_map.mp hp
    rfl
  · rw [List.all_eq_true]
    intro p hp
    obtain ⟨a, _, rfl⟩ := List.mem_map.mp hp
    simp [PyData.depth]
theorem dLe_int (a b : Int) : dLe (.int a) (.int b) = decide (a ≤ b) :=
  congrFun (congrFun (PySem.W.dataLe_int (fun x : Int => x)) a) b
theorem srtL_int (l : List Int) (h : l.length ≤ 16777216) : srtL (l.map .int) = some ((sortI l).map .int) := by
  unfold srtL
  rw [pdOs_int]
  simp only
  rw [if_pos ⟨sortable_int l, by rw [List.length_map]; exact h⟩]
  unfold sortI
  rw [List.map_mergeSort (r := fun a b => decide (a ≤ b)) (s := dLe) (f := D.int) (fun a _ b _ => (dLe_int a b).symm)]
/-- the i-th thing's number -/
def rnk (l : List Str) (r : List Nat) (x : Str) : Int := (r.getD (l.idxOf x) 0 : Nat)
theorem rnk_at {l : List Str} {r : List Nat} (nd : l.Nodup) {i : Nat} (hi : i < l.length) : rnk l r l[i] = (r.getD i 0 : Nat) := by
  unfold rnk
  rw [nd.idxOf_getElem]
theorem range_map {α : Type} (l : List α) (d : α) : (List.range l.length).map (fun i => l.getD i d) = l := by
  apply List.ext_getElem?
  intro i
  rw [List.getElem?_map]
  by_cases h : i < l.length
  · rw [List.getElem?_range h, List.getElem?_eq_getElem h]
    simp [List.getD_eq_getElem?_getD, h]
  · rw [List.getElem?_eq_none (by simpa using h), List.getElem?_eq_none (by simpa using h)]
    rfl
theorem filter_ix {α β : Type} (l : List α) (d : α) (p : α → Bool) (f : α → β) : (l.filter p).map f = ((List.range l.length).filter fun i => p (l.getD i d)).map fun i => f (l.getD i d) := by
  conv => lhs; rw [← range_map l d]
  rw [List.filter_map, List.map_map]
  rfl
theorem ranked_ok {l : List Str} {r : List Nat} (h : Stk l) (hr : r.length = l.length) (m : MS) : ∃ gs, F_law_ranked [dN l, .lst (r.map fun k => .int (k : Nat))] m = .ok (dG gs) [] m ∧ Gd gs l := by
  have h8 := h.le
  have er : (r.map fun k => D.int (k : Nat)) = (r.map fun k => ((k : Nat) : Int)).map .int := by simp
  have hs : srtDG [.lst (r.map fun k => D.int (k : Nat))] = some (.lst ((sortI (r.map fun k => ((k : Nat) : Int))).map .int)) := by
    show (srtL _).map _ = _
    rw [er, srtL_int _ (by simp; omega)]
    rfl
  have hm : ∀ x, x ∈ sortI (r.map fun k => ((k : Nat) : Int)) ↔ ∃ k ∈ r, ((k : Nat) : Int) = x := fun x => by
    unfold sortI
    rw [(List.mergeSort_perm _ _).mem_iff, List.mem_map]
  have hlen : (sortI (r.map fun k => ((k : Nat) : Int))).length = l.length := by
    unfold sortI
    rw [(List.mergeSort_perm _ _).length_eq, List.length_map, hr]
  generalize sortI (r.map fun k => ((k : Nat) : Int)) = ks at *
  have eg : ∀ k : Int, (((List.range l.length).filter fun i => decide (((r.getD i 0 : Nat) : Int) = k)).map fun i => D.str (l.getD i "")) = (l.filter fun x => decide (rnk l r x = k)).map .str := by
    intro k
    rw [filter_ix l "" (fun x => decide (rnk l r x = k)) D.str]
    congr 1
    apply List.filter_congr
    intro i hi
    have hi := List.mem_range.mp hi
    rw [List.getD_eq_getElem?_getD (l := l), List.getElem?_eq_getElem hi, Option.getD_some, rnk_at h.nd hi]
  let gr : Int → List Str := fun k => sortS (l.filter fun x => decide (rnk l r x = k))
  suffices Ends (fun d m' => ∃ gs, d = dG gs ∧ m' = m ∧ Gd gs l) (F_law_ranked [dN l, .lst (r.map fun k => .int (k : Nat))] m) by
    obtain ⟨_, _, e, gs, rfl, rfl, h⟩ := this
    exact ⟨gs, e, h⟩
  unfold F_law_ranked
  simp [defF_out, b_law_ranked, hs]
  refine for_state (k := fun u => Ends _ (U.sq u).out) (fun i e m1 => ∃ gs : List (List Str), e = [some (.fz (dN l)), some (.fz (.lst (r.map fun k => .int (k : Nat)))), some (.ol (gs.map dN)), none, none, none] ∧ m1 = m ∧ gs.length ≤ i ∧ gs.Nodup ∧ (∀ g ∈ gs, ∃ k ∈ ks.take i, g = gr k) ∧ ∀ k ∈ ks.take i, gr k ∈ gs) ⟨[], rfl, rfl, by simp, by simp, by simp, by simp⟩ ?_ ?_
  · rintro i k e m1 hk ⟨gs, rfl, rfl, h1, h2, h3, h4⟩
    have hi : i < ks.length := (List.getElem?_eq_some_iff.mp hk).1
    have tk : ks.take (i + 1) = ks.take i ++ [k] := by rw [List.take_add_one, hk]; rfl
    have hz : -4611686018427387904 ≤ (l.length : Int) ∧ (l.length : Int) ≤ 16777216 := by omega
    have hf : (l.filter fun x => decide (rnk l r x = k)).length ≤ 16777216 := by
      have := List.length_filter_le (fun x => decide (rnk l r x = k)) l
      omega
    have hin : inD (dN (gr k)) (.lst (gs.map dN)) = some (decide (gr k ∈ gs)) := by
      rw [cod_N.inL (by decide)]
      exact congrArg some (decide_eq_decide.mpr Iff.rfl)
    have hg : gs.length < 16777216 := by omega
    by_cases z : gr k ∈ gs
    · refine ⟨_, _, ?_, gs, rfl, rfl, by omega, h2, fun g hg => ?_, fun k' hk' => ?_⟩
      · simp only [gr] at hin z
        simp [hz]
        rw [lcR_on (p := fun i => decide (((r.getD i 0 : Nat) : Int) = k)) (g := fun i => D.str (l.getD i ""))]
        · rw [eg]
          simp [hf, hin, z]
        · intro i hi
          have hi := List.mem_range.mp hi
          have e2 : r[i]? = some r[i] := List.getElem?_eq_getElem (by omega)
          simp [e2]
        · intro i hi _
          have hi := List.mem_range.mp hi
          simp [hi]
      · obtain ⟨k', h5, h6⟩ := h3 g hg
        exact ⟨k', by rw [tk]; exact List.mem_append_left _ h5, h6⟩
      · rw [tk] at hk'
        rcases List.mem_append.mp hk' with h5 | h5
        · exact h4 k' h5
        · simp at h5
          subst h5
          exact z
    · refine ⟨_, _, ?_, gs ++ [gr k], rfl, rfl, by simp; omega, ?_, fun g hg => ?_, fun k' hk' => ?_⟩
      · simp only [gr] at hin z ⊢
        simp [hz]
        rw [lcR_on (p := fun i => decide (((r.getD i 0 : Nat) : Int) = k)) (g := fun i => D.str (l.getD i ""))]
        · rw [eg]
          simp [hf, hin, z, hg]
        · intro i hi
          have hi := List.mem_range.mp hi
          have e2 : r[i]? = some r[i] := List.getElem?_eq_getElem (by omega)
          simp [e2]
        · intro i hi _
          have hi := List.mem_range.mp hi
          simp [hi]
      · rw [List.nodup_append]
        exact ⟨h2, by simp, fun a ha b hb e => by simp at hb; subst hb; subst e; exact z ha⟩
      · rcases List.mem_append.mp hg with h5 | h5
        · obtain ⟨k', h6, h7⟩ := h3 g h5
          exact ⟨k', by rw [tk]; exact List.mem_append_left _ h6, h7⟩
        · simp at h5
          exact ⟨k, by rw [tk]; simp, h5⟩
      · rw [tk] at hk'
        rcases List.mem_append.mp hk' with h5 | h5
        · exact List.mem_append_left _ (h4 k' h5)
        · simp at h5
          subst h5
          simp
  · rintro e m1 ⟨gs, rfl, rfl, h1, h2, h3, h4⟩
    rw [List.take_of_length_le (Nat.le_refl _)] at h3 h4
    simp
    refine ⟨gs, rfl, ?_⟩
    have mg : ∀ {k : Int} {x : Str}, x ∈ gr k ↔ x ∈ l ∧ rnk l r x = k := fun {k x} => by
      show x ∈ sortS _ ↔ _
      rw [sortS_mem, List.mem_filter]
      simp
    have mf : ∀ x, x ∈ flat gs ↔ x ∈ l := fun x => by
      rw [mem_flat]
      constructor
      · rintro ⟨g, hg, hx⟩
        obtain ⟨k, _, rfl⟩ := h3 g hg
        exact (mg.mp hx).1
      · intro hx
        have hi : l.idxOf x < l.length := List.idxOf_lt_length_iff.mpr hx
        have hk : rnk l r x ∈ ks := (hm _).mpr ⟨r.getD (l.idxOf x) 0, by rw [List.getD_eq_getElem?_getD, List.getElem?_eq_getElem (by omega)]; exact List.getElem_mem _, rfl⟩
        exact ⟨_, h4 _ hk, mg.mpr ⟨hx, rfl⟩⟩
    have nd : (flat gs).Nodup := by
      rw [nodup_flat]
      refine ⟨fun g hg => ?_, ?_⟩
      · obtain ⟨k, _, rfl⟩ := h3 g hg
        exact (sortS_perm _).nodup_iff.mpr (h.nd.filter _)
      · refine List.Pairwise.imp_of_mem ?_ h2
        intro a b ha hb hab x hx y hy e
        subst e
        obtain ⟨k, _, rfl⟩ := h3 a ha
        obtain ⟨k', _, rfl⟩ := h3 b hb
        have e1 := (mg.mp hx).2
        have e2 := (mg.mp hy).2
        exact hab (by rw [← e1, ← e2])
    have pm := nodup_perm nd h.nd mf
    refine ⟨⟨fun e => ?_, fun g hg => ?_, nd, by rw [pm.length_eq]; exact h.le⟩, pm⟩
    · subst e
      obtain ⟨x, hx⟩ := List.exists_mem_of_ne_nil l h.ne
      have := (mf x).mpr hx
      simp [flat_nil] at this
    · obtain ⟨k, hk, rfl⟩ := h3 g hg
      have hs : ∀ x ∈ gr k, x ∈ l := fun x hx => (mg.mp hx).1
      refine ⟨fun e => ?_, fun x hx => pool_ok x (h.pl x (hs x hx)), sortS_lt (h.nd.filter _), ?_⟩
      · obtain ⟨q, hq, rfl⟩ := (hm k).mp hk
        obtain ⟨i, hi, e2⟩ := List.getElem_of_mem hq
        have : l[i] ∈ gr (q : Nat) := mg.mpr ⟨List.getElem_mem _, by rw [rnk_at h.nd (by omega), List.getD_eq_getElem?_getD, List.getElem?_eq_getElem hi, ← e2]; rfl⟩
        rw [e] at this
        simp at this
      · show (sortS _).length ≤ 100
        rw [sortS_len]
        have := List.length_filter_le (fun x => decide (rnk l r x = k)) l
        omega
theorem nats_of : ∀ {l : List D}, (∀ y ∈ l, ∃ k : Nat, y = .int (k : Nat)) → ∃ r : List Nat, l = r.map (fun k => .int (k : Nat)) ∧ r.length = l.length
  | [], _ => ⟨[], rfl, rfl⟩
  | d :: l, h => by
    obtain ⟨k, rfl⟩ := h d List.mem_cons_self
    obtain ⟨r, rfl, hr⟩ := nats_of fun y hy => h y (List.mem_cons_of_mem _ hy)
    exact ⟨k :: r, rfl, by simp⟩
/-- n numbers below b are drawn -/
theorem draws_ok {α : Type} {j : Nat} {m : MS} {b : Int} (h : Pur j m) (h1 : 1 ≤ b) (h2 : b < 1073741824) (l : List α) :
    ∃ (r : List Nat) (m' : MS), lcR (fun _ m => .ok true [] m) (fun _ m => (F_law_draw [.obj j, .int b] m).bare) l m = .ok (r.map fun k => .int (k : Nat)) [] m' ∧ r.length = l.length ∧ (∀ k ∈ r, (k : Int) < b) ∧ Go j m m' := by
  obtain ⟨ys, m', k1, k2, k3, k4⟩ := lcR_inv (T := fun (_ : α) m => .ok true [] m) (F := fun _ m => (F_law_draw [.obj j, .int b] m).bare) (I := fun m1 => Go j m m1) (P := fun y => ∃ k : Nat, y = .int (k : Nat) ∧ (k : Int) < b) (l := l) (m := m) (fun a _ m1 hI => by
    obtain ⟨k, m2, q1, q2, q3⟩ := draw_ok hI.p h1 h2
    exact ⟨rfl, _, m2, by rw [q1, R.bare_ok], ⟨k, rfl, q2⟩, hI.trans q3⟩) (.refl h)
  obtain ⟨r, rfl, hr⟩ := nats_of (l := ys) fun y hy => by
    obtain ⟨k, h, _⟩ := k3 y hy
    exact ⟨k, h⟩
  refine ⟨r, m', k1, by rw [hr, k2], fun k hk => ?_, k4⟩
  obtain ⟨k', h3, h4⟩ := k3 _ (List.mem_map.mpr ⟨k, hk, rfl⟩)
  have := D.int.inj h3
  omega
theorem groups_ok' {j : Nat} {m : MS} {l : List Str} (h : Pur j m) (hl : Stk l) : ∃ gs m', F_law_groups [.obj j, dN l] m = .ok (dG gs) [] m' ∧ Gd gs l ∧ Go j m m' := by
  have h8 := hl.le
  have h0 : 0 < l.length := List.length_pos_iff.mpr hl.ne
  obtain ⟨k, m1, q1, q2, q3⟩ := draw_ok (n := (l.length : Int)) h (by omega) (by omega)
  obtain ⟨r, m2, r1, r2, r3, r4⟩ := draws_ok (b := 1 + (k : Int)) q3.p (by omega) (by omega) l
  obtain ⟨gs, g1, g2⟩ := ranked_ok hl r2 m2
  refine ⟨gs, m2, ?_, g2, q3.trans r4⟩
  unfold F_law_groups
  simp [defF_out, b_law_groups, q1, r1, g1]
theorem cutD_len (l : List Int) (a b : Option Int) : (Qd.cutD l a b).length ≤ l.length := by
  unfold Qd.cutD
  rw [List.length_take, List.length_drop]
  omega
theorem purse_ok {ns : List Int} (h : ns.length ≤ 63) {i : Nat} (hi : i < 100) (m : MS) : ∃ m', F_law_purse [.scr ns, .int i] m = .ok (.obj m.length) [] m' ∧ Pur m.length m' ∧ m.length < m'.length := by
  obtain ⟨c, hc⟩ : ∃ c : Int, (if i < ns.length then fin (Option.map D.int ns[i]?) [some (Sl.fz (D.scr ns)), some (Sl.fz (D.int (i : Nat))), none, none, none] m else R.ok (D.int (7919 * ((i : Int) + 5))) [some (Sl.fz (D.scr ns)), some (Sl.fz (D.int (i : Nat))), none, none, none] m) =
      .ok (.int c) [some (Sl.fz (D.scr ns)), some (Sl.fz (D.int (i : Nat))), none, none, none] m := by
    by_cases z : i < ns.length
    · exact ⟨ns[i], by rw [if_pos z, List.getElem?_eq_getElem z]; rfl⟩
    · exact ⟨7919 * (i + 5), by rw [if_neg z]⟩
  have hcut : (Qd.cutD ns none (some 5)).length ≤ 63 := Nat.le_trans (cutD_len _ _ _) h
  obtain ⟨r, hr⟩ : ∃ r : List Int, (Qd.cutD ns none (some 5)).map D.int ++ [.int c] = r.map .int := ⟨Qd.cutD ns none (some 5) ++ [c], by simp⟩
  have sl : slG (.scr ns) none (some 5) = some (.lst ((Qd.cutD ns none (some 5)).map .int)) := rfl
  have pw : powD (.int 10) (.int 18) = some (.int 1000000000000000000) := by
    show (if (0 : Int) ≤ 18 ∧ (18 : Int) ≤ 1000000 ∧ (10 : Int).natAbs < 2 ^ 64 then some (D.int ((10 : Int) ^ (18 : Int).toNat)) else none) = _
    rw [if_pos (by decide)]
    rfl
  suffices Ends (fun d m' => d = .obj m.length ∧ Pur m.length m' ∧ m.length < m'.length) (F_law_purse [.scr ns, .int i] m) by
    obtain ⟨_, m', e, rfl, h⟩ := this
    exact ⟨m', e, h⟩
  have hz : (Qd.cutD ns none (some 5)).length + 1 ≤ 16777216 := by omega
  unfold F_law_purse
  simp [defF_out, b_law_purse]
  rw [hc]
  simp [sl, oSome, hz]
  rw [hr]
  refine for_state (k := fun u => Ends _ (U.sq u).out) (fun _ e m1 => ∃ s : Int, 0 ≤ s ∧ e = [some (.fz (.scr ns)), some (.fz (.int i)), some (.fz (.int c)), some (.fz (.int s)), none] ∧ m1 = m) ⟨211 + i, by omega, rfl, rfl⟩ ?_ ?_
  · rintro _ k e m1 _ ⟨s, hs, rfl, rfl⟩
    refine ⟨_, _, ?_, (s * 48271 + k % 2147483647 + 101) % 2147483647, Int.emod_nonneg _ (by omega), rfl, rfl⟩
    simp
  · rintro e m1 ⟨s, hs, rfl, rfl⟩
    by_cases z : (1000000000000000000 : Int) ≤ (if c < 0 then -c else c)
    · have hp : (0 : Int) ≤ if c < 0 then -c else c := by split <;> omega
      simp [pw, z, sRetO]
      exact ⟨_, s, by simp, hp, hs⟩
    · simp [pw, z, sRetO]
      exact ⟨0, s, by simp, by omega, hs⟩
/-- the law's own text: its turns, up to K -/
noncomputable def lawT (FR : FF) (K : Int) : FS := sRet (xA (aCons (xLcP (wRng1 (aCons (xA (aCons (xC (.int 2)) (aCons (xA (aCons (xA (aCons (xVar 0) (aNil)) lenG) (aCons (xC (.int K)) (aNil))) (purA minG)) (aNil))) (purA maxG)) (aNil))) (gN 1) [1] (tAll) (xCall FR (aCons (xCall F_law_purse (aCons (xVar 0) (aCons (xVar 1) (aNil)))) (aNil)))) (aNil)) (purA allG))
theorem blsO_all {b : Bool} : ∀ l : List D, (∀ y ∈ l, y = .bl b) → blsO l = some (List.replicate l.length b)
  | [], _ => rfl
  | d :: l, h => by
    have e := h d List.mem_cons_self
    subst e
    unfold blsO
    rw [blsO_all l fun y hy => h y (List.mem_cons_of_mem _ hy)]
    rfl
theorem all_true {l : List D} (h : ∀ y ∈ l, y = .bl true) : allG [.lst l] = some (.bl true) := by
  unfold allG
  simp only
  rw [blsO_all l h]
  simp
theorem law_of {FR : FF} {K : Int} (hK : 2 ≤ K ∧ K ≤ 60) (hR : ∀ (j : Nat) (m : MS), Pur j m → ∃ m', FR [.obj j] m = .ok (.bl true) [] m') (ns : List Int) (h : ns.length ≤ 63) : ∃ m, defF 1 2 (lawT FR K) [.scr ns] [] = .ok (.bl true) [] m := by
  obtain ⟨n, hn, hn3⟩ : ∃ n : Nat, (if (if K < (ns.length : Int) then K else ns.length) > 2 then (if K < (ns.length : Int) then K else ns.length) else 2) = (n : Int) ∧ n ≤ 60 := ⟨(if (if K < (ns.length : Int) then K else ns.length) > 2 then (if K < (ns.length : Int) then K else ns.length) else 2).toNat, by split <;> split <;> omega, by split <;> split <;> omega⟩
  have hz : -4611686018427387904 ≤ (n : Int) ∧ (n : Int) ≤ 16777216 := by omega
  obtain ⟨ys, m', k1, _, k3, _⟩ := lcR_inv (T := fun (_ : Nat) m => .ok true [] m) (F := fun (a : Nat) m => R.pu [some (.fz (.scr ns)), some (.fz (.int (a : Nat)))] (@R.bd _ _ (@R.bd _ _ ((F_law_purse [.scr ns, .int (a : Nat)] m).atE [some (.fz (.scr ns)), some (.fz (.int (a : Nat)))]) ⟨fun d e m => (aNil e m).bind fun ds e m => .ok (d :: ds) e m⟩) ⟨fun ds e m => (FR ds m).atE e⟩)) (I := fun _ => True) (P := fun y => y = .bl true) (l := List.range n) (m := []) (fun a ha m1 _ => by
    have ha := List.mem_range.mp ha
    obtain ⟨m2, p1, p2, _⟩ := purse_ok h (i := a) (by omega) m1
    obtain ⟨m3, r1⟩ := hR _ _ p2
    exact ⟨rfl, _, m3, by simp [p1, r1], rfl, trivial⟩) trivial
  refine ⟨m', ?_⟩
  simp [defF_out, lawT]
  rw [hn]
  simp [hz, k1, all_true k3]
end Sp
end
section
set_option Elab.async false
set_option linter.all false
set_option autoImplicit false
set_option maxRecDepth 100000

/-! repr of rows of truth values and of numbers. -/
namespace Qd
open PySem PySem.Spec PyProof.Rows L2
theorem pdOs_bl : ∀ bs : List Bool, pdOs (bs.map .bl) = some (bs.map .bool)
  | [] => rfl
  | b :: r => by rw [List.map_cons, pdOs, pdOs_bl r]; rfl
theorem reprG_of {d : D} {p : PyData} (h : pdO d = some p) (hs : p.showable = true) (hd : p.depth ≤ 60) (hl : p.leavesShort 13 = true) (hw : p.weight ≤ 1000000) : reprG [d] = some (.str p.shown) := by
  unfold reprG
  simp only [h]
  have h2 := PyData.shown_le 13 (by decide) p hl
  have h3 : (13 + 2) * p.weight ≤ 15 * 1000000 := Nat.mul_le_mul (by decide) hw
  rw [if_pos ⟨hs, hd, by omega⟩]
theorem bools_are : ∀ bs : List Bool, PyData.showableAll (bs.map .bool) = true ∧ PyData.depthAll (bs.map .bool) ≤ 1 ∧ PyData.leavesShortAll 13 (bs.map .bool) = true ∧ PyData.weightAll (bs.map .bool) = bs.length
  | [] => ⟨rfl, by decide, rfl, rfl⟩
  | b :: r => by
    obtain ⟨h1, h2, h3, h4⟩ := bools_are r
    have h5 : PyData.leavesShort 13 (.bool b) = true := by cases b <;> decide +kernel
    refine ⟨?_, ?_, ?_, ?_⟩
    · simp [PyData.showableAll, PyData.showable, h1]
    · simp [PyData.depthAll, PyData.depth] at h2 ⊢
      omega
    · simp [PyData.leavesShortAll, h5, h3]
    · simp [PyData.weightAll, PyData.weight, h4]
      omega
def rb (bs : List Bool) : Str := (PyData.list (bs.map .bool)).shown
theorem repr_bools {bs : List Bool} (h : bs.length ≤ 1000) : reprG [.lst (bs.map .bl)] = some (.str (rb bs)) := by
  obtain ⟨h1, h2, h3, h4⟩ := bools_are bs
  refine reprG_of ?_ ?_ ?_ ?_ ?_
  · show (pdOs _).map _ = _
    rw [pdOs_bl]
    rfl
  · simpa [PyData.showable] using h1
  · simp [PyData.depth]
    omega
  · simpa [PyData.leavesShort] using h3
  · simp [PyData.weight, h4]
    omega
@[simp] theorem repr_b1 {a : Bool} : reprG [.lst [.bl a]] = some (.str (rb [a])) := repr_bools (bs := [a]) (by simp)
@[simp] theorem repr_b2 {a b : Bool} : reprG [.lst [.bl a, .bl b]] = some (.str (rb [a, b])) := repr_bools (bs := [a, b]) (by simp)
@[simp] theorem repr_b3 {a b c : Bool} : reprG [.lst [.bl a, .bl b, .bl c]] = some (.str (rb [a, b, c])) := repr_bools (bs := [a, b, c]) (by simp)
@[simp] theorem repr_b4 {a b c d : Bool} : reprG [.lst [.bl a, .bl b, .bl c, .bl d]] = some (.str (rb [a, b, c, d])) := repr_bools (bs := [a, b, c, d]) (by simp)
end Qd
end
section
set_option Elab.async false
set_option linter.all false
set_option autoImplicit false
set_option maxRecDepth 100000

/-! Data that repr shows. -/
namespace Qd
open PySem PySem.Spec PyProof.Rows L2
def Shw (d : D) (k w : Nat) : Prop := ∃ p, pdO d = some p ∧ p.showable = true ∧ p.depth ≤ k ∧ p.leavesShort 13 = true ∧ p.weight ≤ w
def ShwL (l : List D) (k w : Nat) : Prop := ∃ ps, pdOs l = some ps ∧ PyData.showableAll ps = true ∧ PyData.depthAll ps ≤ k ∧ PyData.leavesShortAll 13 ps = true ∧ PyData.weightAll ps ≤ w
theorem Shw.repr {d : D} {k w : Nat} (h : Shw d k w) (hk : k ≤ 60) (hw : w ≤ 1000000) : ∃ r, reprG [d] = some (.str r) := by
  obtain ⟨p, h1, h2, h3, h4, h5⟩ := h
  exact ⟨_, reprG_of h1 h2 (by omega) h4 (by omega)⟩
theorem Shw.mono {d : D} {k w k' w' : Nat} (h : Shw d k w) (hk : k ≤ k') (hw : w ≤ w') : Shw d k' w' := by
  obtain ⟨p, h1, h2, h3, h4, h5⟩ := h
  exact ⟨p, h1, h2, by omega, h4, by omega⟩
theorem ShwL.mono {l : List D} {k w k' w' : Nat} (h : ShwL l k w) (hk : k ≤ k') (hw : w ≤ w') : ShwL l k' w' := by
  obtain ⟨p, h1, h2, h3, h4, h5⟩ := h
  exact ⟨p, h1, h2, by omega, h4, by omega⟩
theorem Shw.str {x : Str} (h : PyData.strOk x = true) {k w : Nat} (hw : x.length ≤ w) : Shw (.str x) k w := by
  refine ⟨_, rfl, rfl, Nat.zero_le _, ?_, ?_⟩
  · simp only [PyData.leavesShort]
    rw [List.all_eq_true]
    intro c hc
    have := strOk_iff.mp h c hc
    exact decide_eq_true (by omega)
  · simp only [PyData.weight]
    exact hw
theorem Shw.bl {b : Bool} {k w : Nat} : Shw (.bl b) k w := by
  refine ⟨_, rfl, rfl, Nat.zero_le _, rfl, Nat.zero_le _⟩
theorem Shw.non {k w : Nat} : Shw .non k w := by
  refine ⟨_, rfl, rfl, Nat.zero_le _, rfl, Nat.zero_le _⟩
theorem Shw.int {i : Int} (h : i.natAbs < 10 ^ 12) {k w : Nat} (hw : 40 ≤ w) : Shw (.int i) k w := by
  have hl : i.natAbs.log2 < 40 := by
    by_cases z : i.natAbs = 0
    · rw [z]; decide
    · rw [Nat.log2_lt z]
      exact Nat.lt_of_lt_of_le h (by decide)
  refine ⟨_, rfl, decide_eq_true (by omega), Nat.zero_le _, decide_eq_true (PyData.shown_int_le h), ?_⟩
  simp only [PyData.weight]
  split <;> omega
theorem ShwL.nil {k w : Nat} : ShwL [] k w := ⟨[], rfl, rfl, Nat.zero_le _, rfl, Nat.zero_le _⟩
theorem ShwL.cons {d : D} {l : List D} {k w w' : Nat} (h : Shw d k w) (hl : ShwL l k w') : ShwL (d :: l) k (w + 1 + w') := by
  obtain ⟨p, h1, h2, h3, h4, h5⟩ := h
  obtain ⟨ps, k1, k2, k3, k4, k5⟩ := hl
  refine ⟨p :: ps, by rw [pdOs, h1, k1], ?_, ?_, ?_, ?_⟩
  · simp only [PyData.showableAll, h2, k2, Bool.and_self]
  · simp only [PyData.depthAll]
    omega
  · simp only [PyData.leavesShortAll, h4, k4, Bool.and_self]
  · simp only [PyData.weightAll]
    omega
theorem ShwL.map {α : Type} {f : α → D} {k w : Nat} : ∀ {l : List α}, (∀ a ∈ l, Shw (f a) k w) → ShwL (l.map f) k ((w + 1) * l.length)
  | [], _ => .nil
  | a :: l, h => by
    have := ShwL.cons (h a List.mem_cons_self) (ShwL.map (l := l) fun b hb => h b (List.mem_cons_of_mem _ hb))
    refine this.mono (Nat.le_refl _) ?_
    rw [List.length_cons, Nat.mul_add]
    omega
theorem Shw.lst {l : List D} {k w : Nat} (h : ShwL l k w) : Shw (.lst l) (k + 1) w := by
  obtain ⟨ps, k1, k2, k3, k4, k5⟩ := h
  refine ⟨.list ps, ?_, k2, ?_, k4, k5⟩
  · rw [pdO, k1]; rfl
  · simp only [PyData.depth]
    omega
theorem Shw.tup {l : List D} {k w : Nat} (h : ShwL l k w) : Shw (.tup l) (k + 1) w := by
  obtain ⟨ps, k1, k2, k3, k4, k5⟩ := h
  refine ⟨.tuple ps, ?_, k2, ?_, k4, k5⟩
  · rw [pdO, k1]; rfl
  · simp only [PyData.depth]
    omega
end Qd
end
section
set_option Elab.async false
set_option linter.all false
set_option autoImplicit false
set_option maxRecDepth 100000
namespace Sp
open PySem PySem.Spec PyProof.Rows L2 Qd
/-! ### the greatest divisor -/
theorem gcd_pmod (a b : Int) : Int.gcd b (a.fmod b) = Int.gcd a b := by
  have e : a.fmod b = a + -(a.fdiv b) * b := by
    have := Int.mul_fdiv_add_fmod a b
    rw [Int.neg_mul, Int.mul_comm (a.fdiv b) b]
    omega
  rw [e, Int.gcd_add_mul_right_right, Int.gcd_comm]
theorem pmod_eq (a b : Int) : (if 0 < b then some (D.int (a % b)) else if b = 0 then none else some (D.int (a.fmod b))) = if b = 0 then none else some (D.int (a.fmod b)) := by
  by_cases h : 0 < b
  · have h2 : ¬ b = 0 := by omega
    rw [if_pos h, if_neg h2, Int.fmod_eq_emod_of_nonneg a (by omega)]
  · rw [if_neg h]
theorem pmod_lt (a : Int) {b : Int} (h : b ≠ 0) : (a.fmod b).natAbs < b.natAbs := by
  rcases Int.lt_or_gt_of_ne h with k | k
  · have e := Int.neg_fmod_neg a b
    rw [Int.fmod_eq_emod_of_nonneg (-a) (by omega : (0 : Int) ≤ -b)] at e
    have h1 := Int.emod_nonneg (-a) (show -b ≠ 0 by omega)
    have h2 := Int.emod_lt_of_pos (-a) (show (0 : Int) < -b by omega)
    omega
  · rw [Int.fmod_eq_emod_of_nonneg a (by omega)]
    have h1 := Int.emod_nonneg a h
    have h2 := Int.emod_lt_of_pos a k
    omega
theorem gcd_run {t : FT} {body : FS} (m : MS) (ht : ∀ a b : Int, t [some (.fz (.int a)), some (.fz (.int b))] m = .ok (!decide (b = 0)) [some (.fz (.int a)), some (.fz (.int b))] m)
    (hb : ∀ a b : Int, b ≠ 0 → body [some (.fz (.int a)), some (.fz (.int b))] m = .nx [some (.fz (.int b)), some (.fz (.int (a.fmod b)))] m) :
    ∀ (n : Nat) (a b : Int), b.natAbs < n → ∃ c : Int, runWh t body n [some (.fz (.int a)), some (.fz (.int b))] m = .nx [some (.fz (.int c)), some (.fz (.int 0))] m ∧ c.natAbs = Int.gcd a b
  | 0, a, b, h => absurd h (Nat.not_lt_zero _)
  | n + 1, a, b, h => by
    by_cases z : b = 0
    · subst z
      refine ⟨a, ?_, by rw [Int.gcd_zero_right]⟩
      unfold runWh
      rw [ht]
      rfl
    · have h1 := pmod_lt a z
      obtain ⟨c, h2, h3⟩ := gcd_run m ht hb n b (a.fmod b) (by omega)
      refine ⟨c, ?_, by rw [h3, gcd_pmod]⟩
      unfold runWh
      rw [ht]
      simp only [z, decide_false, Bool.not_false, R.thn_ok, if_true, hb a b z]
      exact h2
theorem natAbs_if (c : Int) : (if c < 0 then -c else c) = (c.natAbs : Int) := by split <;> omega
theorem gcd_ok (a b : Int) (m : MS) : F_greatest_divisor [.int a, .int b] m = .ok (.int (Int.gcd a b : Nat)) [] m := by
  unfold F_greatest_divisor
  simp only [defF_out, b_greatest_divisor]
  simp only [List.length_cons, List.length_nil, if_true, List.map_cons, List.map_nil, Nat.sub_self, List.replicate_zero, List.append_nil, s_seq]
  obtain ⟨c, h1, h2⟩ := gcd_run (t := tOf (x2 (xVar 1) (xC (.int 0)) (pur2 opNe))) (body := sPar 0 1 (vVal (xVar 1)) (vVal (x2 (xVar 0) (xVar 1) (pur2 modD)))) m (fun a b => by simp) (fun a b h => by
    by_cases k : 0 < b
    · have e := Int.fmod_eq_emod_of_nonneg a (show 0 ≤ b by omega)
      simp [k, e]
    · simp [k, h]) (b.natAbs + 1) a b (by omega)
  rw [sWh_is (n := b.natAbs + 1) (by rw [h1]; intro z; cases z), h1]
  simp [natAbs_if, h2]
/-- a fraction in lowest terms -/
def lwst (a b : Int) : Int × Int := (a / (Int.gcd a b : Nat), b / (Int.gcd a b : Nat))
/-! ### terms -/
abbrev Tm := Int × Nat
abbrev dT (t : Tm) : D := .tup [.int t.1, .int (t.2 : Nat)]
abbrev dTs (ts : List Tm) : D := .tup (ts.map dT)
structure Tms (ts : List Tm) : Prop where
  nz : ∀ t ∈ ts, t.1 ≠ 0
  le : ∀ t ∈ ts, t.2 ≤ 60
  dec : ts.Pairwise fun a b => b.2 < a.2
theorem is_int_ok (a : Int) (m : MS) : F_is_integer [.int a] m = .ok (.bl true) [] m := by
  unfold F_is_integer
  simp [defF_out, b_is_integer]
theorem is_nat_ok (a : Int) (m : MS) : F_is_natural [.int a] m = .ok (.bl (decide (0 ≤ a))) [] m := by
  unfold F_is_natural
  simp [defF_out, b_is_natural, is_int_ok]
theorem is_term_ok {t : Tm} (h1 : t.1 ≠ 0) (h2 : t.2 ≤ 60) (m : MS) : F_is_term [dT t] m = .ok (.bl true) [] m := by
  unfold F_is_term
  have h3 : (t.2 : Int) ≤ 60 := by omega
  simp [defF_out, b_is_term, is_int_ok, is_nat_ok, h1, h3]
theorem terms_ok {ts : List Tm} (h : Tms ts) (m : MS) : F_wrong_term [dTs ts] m = .ok (.int (-1)) [] m := by
  unfold F_wrong_term
  simp [defF_out, b_wrong_term]
  rw [runFor_keep]
  · rfl
  · rintro ⟨t, i⟩ ht
    have ht := zip_mem ht
    have hm := List.mem_of_getElem? ht
    by_cases hi : 0 < i
    · have e1 : ((i : Int) - 1) = ((i - 1 : Nat) : Int) := by omega
      obtain ⟨hl, ex⟩ := List.getElem?_eq_some_iff.mp ht
      have e2 : ts[i - 1]? = some ts[i - 1] := List.getElem?_eq_getElem (by omega)
      have e3 : ts[i].2 < ts[i - 1].2 := List.pairwise_iff_getElem.mp h.dec (i - 1) i (by omega) hl (by omega)
      rw [ex] at e3
      have e4 : ¬ ((ts[i - 1].2 : Int) ≤ (t.2 : Int)) := by omega
      simp [is_term_ok (h.nz t hm) (h.le t hm), hi, e1, e2, e4]
    · have : i = 0 := by omega
      subst this
      simp [is_term_ok (h.nz t hm) (h.le t hm)]
/-- what divides the parts and all coefficients -/
def shr (ts : List Tm) (p : Nat) : Nat := ts.foldl (fun g t => Int.gcd (g : Int) t.1) p
theorem shared_ok (ts : List Tm) (p : Nat) (m : MS) : F_shared_divisor [dTs ts, .int (p : Nat)] m = .ok (.int (shr ts p : Nat)) [] m := by
  unfold F_shared_divisor
  simp [defF_out, b_shared_divisor]
  rw [runFor_fold (fun g : Nat => [some (.fz (dTs ts)), some (.fz (.int (p : Nat))), some (.fz (.int (g : Nat))), none, none]) (fun g (t : Tm) => Int.gcd (g : Int) t.1)]
  · simp [shr]
  · intro t ht g
    simp [gcd_ok]
theorem shr_dvd : ∀ (ts : List Tm) (p : Nat), shr ts p ∣ p ∧ ∀ t ∈ ts, ((shr ts p : Nat) : Int) ∣ t.1
  | [], p => ⟨Nat.dvd_refl _, by simp⟩
  | t :: ts, p => by
    obtain ⟨h1, h2⟩ := shr_dvd ts (Int.gcd (p : Int) t.1)
    have h3 : shr (t :: ts) p = shr ts (Int.gcd (p : Int) t.1) := rfl
    rw [h3]
    refine ⟨Nat.dvd_trans h1 (Int.ofNat_dvd.mp (Int.gcd_dvd_left _ _)), fun u hu => ?_⟩
    rcases List.mem_cons.mp hu with rfl | hu
    · exact Int.dvd_trans (Int.ofNat_dvd.mpr h1) (Int.gcd_dvd_right _ _)
    · exact h2 u hu
theorem dvd_shr : ∀ (ts : List Tm) (p d : Nat), d ∣ p → (∀ t ∈ ts, (d : Int) ∣ t.1) → d ∣ shr ts p
  | [], p, d, h, _ => h
  | t :: ts, p, d, h, k => dvd_shr ts _ d (Int.dvd_gcd (Int.ofNat_dvd.mpr h) (k t List.mem_cons_self)) fun u hu => k u (List.mem_cons_of_mem _ hu)
theorem shr_pos {ts : List Tm} {p : Nat} (h : 0 < p) : 0 < shr ts p := Nat.pos_of_dvd_of_pos (shr_dvd ts p).1 h
/-- in lowest terms -/
def lowT (ts : List Tm) (p : Nat) : List Tm := ts.map fun t => (t.1 / (shr ts p : Nat), t.2)
def lowP (ts : List Tm) (p : Nat) : Nat := p / shr ts p
theorem lowP_pos {ts : List Tm} {p : Nat} (h : 0 < p) : 0 < lowP ts p := Nat.div_pos (Nat.le_of_dvd h (shr_dvd ts p).1) (shr_pos h)
theorem lowT_tms {ts : List Tm} {p : Nat} (h : Tms ts) (hp : 0 < p) : Tms (lowT ts p) where
  nz := fun t ht => by
    obtain ⟨u, hu, rfl⟩ := List.mem_map.mp ht
    have := (shr_dvd ts p).2 u hu
    intro z
    have e := Int.ediv_mul_cancel this
    have z : u.1 / (shr ts p : Nat) = 0 := z
    rw [z, Int.zero_mul] at e
    exact h.nz u hu e.symm
  le := fun t ht => by
    obtain ⟨u, hu, rfl⟩ := List.mem_map.mp ht
    exact h.le u hu
  dec := by
    unfold lowT
    rw [List.pairwise_map]
    exact h.dec
def dF (ts : List Tm) (p : Nat) : D := .ins "Form" ["sums", "under"] [dTs ts, .int (p : Nat)]
/-- a divisor that the machine's division takes -/
def Sml (n : Nat) : Prop := n.log2 < 9000
theorem Sml.le {a b : Nat} (h : Sml b) (k : a ≤ b) : Sml a := by
  unfold Sml at *
  by_cases z : a = 0
  · subst z; decide
  · have : b < 2 ^ 9000 := (Nat.log2_lt (by omega)).mp h
    exact (Nat.log2_lt z).mpr (by omega)
theorem sml_of {a : Nat} (h : a < 2 ^ 1000) : Sml a := by
  unfold Sml
  by_cases z : a = 0
  · subst z; decide
  · exact (Nat.log2_lt z).mpr (Nat.lt_of_lt_of_le h (Nat.pow_le_pow_right (by decide) (by decide)))
theorem fdiv_sml {a : Int} {b : Nat} (h : 0 < b) (hs : Sml b) : fdivD (.int a) (.int (b : Nat)) = some (.int (a / (b : Nat))) := by
  have h0 : 0 < (b : Int) := by omega
  have h1 : (b : Int).natAbs.log2 < 9000 := hs
  rw [q_fdiv]
  by_cases z : (b : Int) < 1073741824
  · rw [if_pos ⟨h0, z⟩]
  · rw [if_neg (fun y => z y.2), if_pos ⟨h0, h1⟩]
theorem init_form {ts : List Tm} {p : Nat} (h : Tms ts) (hp : 0 < p) (hs : Sml p) (m : MS) : I_Form_init [dTs ts, .int (p : Nat)] m = .ok (["sums", "under"], [dTs (lowT ts p), .int (lowP ts p : Nat)]) [] m := by
  have hn : hasN [Str.ofString "sums"] (Str.ofString "under") = false := by decide +kernel
  have hg := shr_pos (ts := ts) hp
  have hgs : Sml (shr ts p) := hs.le (Nat.le_of_dvd hp (shr_dvd ts p).1)
  have h0 : ¬ p = 0 := by omega
  have hd := fun a : Int => fdiv_sml (a := a) hg hgs
  unfold I_Form_init
  simp [initF_out, b_Form_init, terms_ok h, hn, is_nat_ok, h0, shared_ok, -q_fdiv]
  rw [lcR_on (p := fun _ => true) (g := fun t : Tm => dT (t.1 / (shr ts p : Nat), t.2)) (fun _ _ => rfl)]
  · simp [hn, hd, lowT, lowP, Function.comp_def, -q_fdiv]
  · intro t ht _
    simp [hd, -q_fdiv]
theorem made_form {ts : List Tm} {p : Nat} (h : Tms ts) (hp : 0 < p) (hs : Sml p) (e : Qd.Env) (m : MS) : madeG "Form" I_Form_init [dTs ts, .int (p : Nat)] e m = .ok (dF (lowT ts p) (lowP ts p)) e m := by
  unfold madeG
  rw [init_form h hp hs]
  rfl
theorem made_form1 {ts : List Tm} (h : Tms ts) (e : Qd.Env) (m : MS) : madeG "Form" (dflI I_Form_init [.int 1]) [dTs ts] e m = .ok (dF (lowT ts 1) (lowP ts 1)) e m := by
  have := made_form h (p := 1) (by decide) (sml_of (Nat.one_lt_two_pow (by decide))) e m
  unfold madeG dflI at *
  exact this
theorem low1 (ts : List Tm) : lowT ts 1 = ts ∧ lowP ts 1 = 1 := by
  have : shr ts 1 = 1 := Nat.dvd_one.mp (shr_dvd ts 1).1
  unfold lowT lowP
  rw [this]
  simp
theorem sums_is (ts : List Tm) (p : Nat) : fldG "Form" "sums" (dF ts p) = some (dTs ts) := rfl
theorem under_is (ts : List Tm) (p : Nat) : fldG "Form" "under" (dF ts p) = some (.int (p : Nat)) := rfl
theorem insF (ts : List Tm) (p : Nat) : insIs "Form" "" (dF ts p) = true := rfl
theorem insF_turns (ts : List Tm) (p : Nat) : insIs "Form" "turns" (dF ts p) = true := rfl
theorem terms_prop (ts : List Tm) (p : Nat) (m : MS) : F_Form_terms [dF ts p] m = .ok (dTs ts) [] m := by
  unfold F_Form_terms
  simp [defF_out, b_Form_terms, sums_is]
end Sp
end
section
set_option Elab.async false
set_option linter.all false
set_option autoImplicit false
set_option maxRecDepth 100000
namespace Qd
open PySem PySem.Spec PyProof.Rows L2
@[simp] theorem q_ixN {i : Nat} {f : FE} {e : Env} {m : MS} : xIxN i f e m = if hasS e i then (f e m).bind fun y e m => (match e[i]? with
  | some (some (.fz d)) => ixG d y e m
  | some (some (.ol l)) => match y with
    | .int k => fin (L2.atI l k) e m
    | _ => .no
  | some (some (.od ks vs)) => match keyK y with
    | some q => fin (dlook ks vs q) e m
    | none => .no
  | _ => .no) else .no := rfl
@[simp] theorem q_eqN' {i : Nat} {f : FE} {neg : Bool} {e : Env} {m : MS} : xEqN neg i f e m = if hasS e i then (f e m).bind fun y e m => (match e[i]? with
  | some (some (.ol l)) => fin ((eqD (.lst l) y).map fun b => .bl (if neg then !b else b)) e m
  | some (some (.fz d)) => fin ((eqD d y).map fun b => .bl (if neg then !b else b)) e m
  | _ => .no) else .no := rfl
@[simp] theorem q_sumI {l : List Int} : sumG [.lst (l.map .int)] = some (.int l.sum) := by
  unfold sumG
  simp
theorem q_sumF {α : Type} {l : List α} {f : α → Int} : sumG [.lst (l.map fun a => .int (f a))] = some (.int (l.map f).sum) := by
  have := q_sumI (l := l.map f)
  rw [List.map_map] at this
  exact this
@[simp] theorem w_rng3 {fa : FA} {e : Env} {m : MS} : wRng3 fa e m = (fa e m).bind rng3G := rfl
theorem atI_last {α : Type} (l : List α) (h : l ≠ []) : L2.atI l (-1) = l.getLast? := by
  have hl : 0 < l.length := List.length_pos_iff.mpr h
  unfold L2.atI L2.ixN
  rw [if_neg (by omega), if_pos (by omega)]
  simp only [Option.bind]
  rw [List.getLast?_eq_getElem?]
  congr 1
  omega
theorem zip_self {α β : Type} (f : α → β) : ∀ l : List α, (l.map f).zip l = l.map fun a => (f a, a)
  | [] => rfl
  | a :: l => by rw [List.map_cons, List.zip_cons_cons, zip_self f l]; rfl
/-- a while by its states -/
theorem runWh_to {t : FT} {body : FS} {m : MS} (E : Nat → Env) (N : Nat) (ht : ∀ n, n ≤ N → t (E n) m = .ok (decide (n < N)) (E n) m) (hb : ∀ n, n < N → body (E n) m = .nx (E (n + 1)) m) : ∀ (k n : Nat), n + k = N → runWh t body (k + 1) (E n) m = .nx (E N) m
  | 0, n, h => by
    have : n = N := by omega
    subst this
    unfold runWh
    rw [ht n (Nat.le_refl _)]
    simp
  | k + 1, n, h => by
    have hn : n < N := by omega
    have ih := runWh_to E N ht hb k (n + 1) (by omega)
    unfold runWh
    rw [ht n (by omega)]
    simp only [hn, decide_true, R.thn_ok, if_true, hb n hn]
    exact ih
/-- a for that is left at turn k -/
theorem runFor_brk {α : Type} {t : FG} {cl : List Nat} {body : FS} {c : α → D} {m : MS} {eB : Env} : ∀ (l : List α) (E : Nat → Env) (i k : Nat) (a : α), l[k]? = some a → (∀ j x, j < k → l[j]? = some x → turn t cl body (c x) (E (i + j)) m = .nx (E (i + j + 1)) m) → turn t cl body (c a) (E (i + k)) m = .bk eB m →
    runFor t cl body (l.map c) (E i) m = .nx eB m
  | [], E, i, k, a, hl, _, _ => by simp at hl
  | x :: l, E, i, 0, a, hl, _, hk => by
    have : x = a := by simpa using hl
    subst this
    rw [List.map_cons, runFor_cons, show E i = E (i + 0) from rfl, hk]
  | x :: l, E, i, k + 1, a, hl, h, hk => by
    have h0 := h 0 x (by omega) rfl
    rw [List.map_cons, runFor_cons, show E i = E (i + 0) from rfl, h0]
    simp only
    have := runFor_brk l E (i + 1) k a (by simpa using hl) (fun j y hj hy => by
      have := h (j + 1) y (by omega) (by simpa using hy)
      rw [show i + (j + 1) = i + 1 + j by omega] at this
      exact this) (by rw [show i + 1 + k = i + (k + 1) by omega]; exact hk)
    exact this
end Qd
namespace Sp
open PySem PySem.Spec PyProof.Rows L2 Qd
theorem mul_sml (i : Int) {b : Nat} (h : b ≤ 1000000000000) : mulD (.int i) (.int (b : Nat)) = some (.int (i * (b : Nat))) := by
  rw [q_mul, if_pos]
  right
  omega
theorem sml_12 {a : Nat} (h : a ≤ 1000000000000) : Sml a := by
  unfold Sml
  by_cases z : a = 0
  · subst z; decide
  · have : a.log2 < 40 := (Nat.log2_lt z).mpr (Nat.lt_of_le_of_lt h (by decide))
    omega
/-! ### forms of fractions -/
abbrev Fr := Nat × Int × Nat
abbrev dFr (f : Fr) : D := .tup [.int (f.1 : Nat), .int f.2.1, .int (f.2.2 : Nat)]
def lcmF (fr : List Fr) : Nat := fr.foldl (fun p f => p / Int.gcd (p : Int) (f.2.2 : Nat) * f.2.2) 1
/-- the numerator over the common denominator -/
def qoF (L : Nat) (f : Fr) : Int := f.2.1 * ((L / f.2.2 : Nat) : Int)
def coF (fr : List Fr) (b : Nat) : Int := ((fr.filter fun f => decide (f.1 = b)).map fun f => qoF (lcmF fr) f).sum
def downs : List Nat := (List.range 61).map fun i => 60 - i
theorem rangeN_60 : rangeN 60 (-1) = downs.map fun b => D.int (b : Nat) := by
  unfold rangeN downs
  rw [List.map_map, show ((60 : Int) - -1).toNat = 61 from rfl]
  apply List.map_congr_left
  intro i hi
  have := List.mem_range.mp hi
  simp only [Function.comp]
  congr 1
  omega
def canon (co : Nat → Int) : List Tm := (downs.filter fun b => decide (co b ≠ 0)).map fun b => (co b, b)
theorem downs_dec : downs.Pairwise fun a b => b < a := by decide +kernel
theorem downs_mem {b : Nat} : b ∈ downs ↔ b ≤ 60 := by
  unfold downs
  rw [List.mem_map]
  constructor
  · rintro ⟨i, hi, rfl⟩
    omega
  · intro h
    exact ⟨60 - b, List.mem_range.mpr (by omega), by omega⟩
theorem canon_mem {co : Nat → Int} {t : Tm} : t ∈ canon co ↔ t.2 ≤ 60 ∧ co t.2 = t.1 ∧ t.1 ≠ 0 := by
  unfold canon
  rw [List.mem_map]
  constructor
  · rintro ⟨b, hb, rfl⟩
    obtain ⟨h1, h2⟩ := List.mem_filter.mp hb
    exact ⟨downs_mem.mp h1, rfl, by simpa using h2⟩
  · rintro ⟨h1, h2, h3⟩
    obtain ⟨c, b⟩ := t
    simp only at h1 h2 h3
    refine ⟨b, List.mem_filter.mpr ⟨downs_mem.mpr h1, ?_⟩, by rw [h2]⟩
    simp [h2, h3]
theorem canon_tms (co : Nat → Int) : Tms (canon co) where
  nz := fun t h => (canon_mem.mp h).2.2
  le := fun t h => (canon_mem.mp h).1
  dec := by
    unfold canon
    rw [List.pairwise_map]
    exact downs_dec.filter _
theorem dec_uniq : ∀ {l r : List Tm}, l.Pairwise (fun a b => b.2 < a.2) → r.Pairwise (fun a b => b.2 < a.2) → (∀ x, x ∈ l ↔ x ∈ r) → l = r
  | [], [], _, _, _ => rfl
  | [], b :: r, _, _, h => by
    have := (h b).mpr (by simp)
    simp at this
  | a :: l, [], _, _, h => by
    have := (h a).mp (by simp)
    simp at this
  | a :: l, b :: r, h1, h2, h => by
    rw [List.pairwise_cons] at h1 h2
    have hab : a = b := by
      rcases List.mem_cons.mp ((h a).mp (by simp)) with e | e
      · exact e
      · rcases List.mem_cons.mp ((h b).mpr (by simp)) with e' | e'
        · exact e'.symm
        · have q1 := h1.1 b e'
          have q2 := h2.1 a e
          omega
    subst hab
    rw [dec_uniq h1.2 h2.2 fun x => ?_]
    have := h x
    simp only [List.mem_cons] at this
    constructor
    · intro hx
      rcases this.mp (.inr hx) with e | e
      · subst e
        have := h1.1 _ hx
        omega
      · exact e
    · intro hx
      rcases this.mpr (.inr hx) with e | e
      · subst e
        have := h2.1 _ hx
        omega
      · exact e
/-- the coefficient of a base -/
def coT (ts : List Tm) (b : Nat) : Int := ((ts.filter fun t => decide (t.2 = b)).map (·.1)).sum
theorem coT_not {ts : List Tm} {b : Nat} (h : ∀ t ∈ ts, t.2 ≠ b) : coT ts b = 0 := by
  unfold coT
  rw [List.filter_eq_nil_iff.mpr]
  · rfl
  · intro t ht
    simpa using h t ht
theorem coT_cons (t : Tm) (ts : List Tm) (b : Nat) : coT (t :: ts) b = (if t.2 = b then t.1 else 0) + coT ts b := by
  unfold coT
  rw [List.filter_cons]
  by_cases h : t.2 = b
  · simp [h]
  · simp [h]
theorem coT_at : ∀ {ts : List Tm}, (ts.Pairwise fun a b => b.2 < a.2) → ∀ {t : Tm}, t ∈ ts → coT ts t.2 = t.1
  | [], _, t, h => by simp at h
  | u :: ts, hd, t, h => by
    rw [List.pairwise_cons] at hd
    rw [coT_cons]
    rcases List.mem_cons.mp h with rfl | h
    · rw [if_pos rfl, coT_not fun v hv => by have := hd.1 v hv; omega, Int.add_zero]
    · have := hd.1 t h
      rw [if_neg (by omega), coT_at hd.2 h, Int.zero_add]
theorem canon_of {ts : List Tm} (h : Tms ts) {co : Nat → Int} (k : ∀ b, b ≤ 60 → co b = coT ts b) : canon co = ts := by
  refine dec_uniq (canon_tms co).dec h.dec fun t => ?_
  rw [canon_mem]
  constructor
  · rintro ⟨h1, h2, h3⟩
    rw [k _ h1] at h2
    by_cases z : ∃ u ∈ ts, u.2 = t.2
    · obtain ⟨u, hu, e⟩ := z
      have := coT_at h.dec hu
      rw [e, h2] at this
      have e2 : u = t := Prod.ext this.symm e
      exact e2 ▸ hu
    · rw [coT_not fun u hu e => z ⟨u, hu, e⟩] at h2
      exact absurd h2.symm h3
  · intro ht
    exact ⟨h.le t ht, by rw [k _ (h.le t ht), coT_at h.dec ht], h.nz t ht⟩
structure Frs (fr : List Fr) : Prop where
  pos : ∀ f ∈ fr, 0 < f.2.2 ∧ f.2.2 ≤ 1000000
  sm : lcmF fr ≤ 1000000000000
def lcmS (p : Nat) (f : Fr) : Nat := p / Int.gcd (p : Int) (f.2.2 : Nat) * f.2.2
theorem lcmS_is (p : Nat) (f : Fr) : lcmS p f = p / Nat.gcd p f.2.2 * f.2.2 := by
  unfold lcmS
  rw [Int.gcd_natCast_natCast]
theorem lcmS_lcm (p : Nat) (f : Fr) : lcmS p f = Nat.lcm p f.2.2 := by
  rw [lcmS_is, Nat.lcm]
  exact Nat.div_mul_right_comm (Nat.gcd_dvd_left p f.2.2) f.2.2
theorem lcmL : ∀ (fr : List Fr) (p : Nat), (∀ f ∈ fr, 0 < f.2.2) → 0 < p → 0 < fr.foldl lcmS p ∧ p ∣ fr.foldl lcmS p ∧ ∀ f ∈ fr, f.2.2 ∣ fr.foldl lcmS p
  | [], p, _, hp => ⟨hp, Nat.dvd_refl _, by simp⟩
  | f :: fr, p, h, hp => by
    have hf := h f List.mem_cons_self
    have e := lcmS_lcm p f
    obtain ⟨h1, h2, h3⟩ := lcmL fr (lcmS p f) (fun g hg => h g (List.mem_cons_of_mem _ hg)) (by rw [e]; exact Nat.lcm_pos hp hf)
    rw [List.foldl_cons]
    refine ⟨h1, Nat.dvd_trans (by rw [e]; exact Nat.dvd_lcm_left _ _) h2, fun g hg => ?_⟩
    rcases List.mem_cons.mp hg with rfl | hg
    · exact Nat.dvd_trans (by rw [e]; exact Nat.dvd_lcm_right _ _) h2
    · exact h3 g hg
theorem lcmF_pos {fr : List Fr} (h : ∀ f ∈ fr, 0 < f.2.2) : 0 < lcmF fr := (lcmL fr 1 h (by decide)).1
theorem lcmF_dvd {fr : List Fr} (h : ∀ f ∈ fr, 0 < f.2.2) {f : Fr} (hf : f ∈ fr) : f.2.2 ∣ lcmF fr := (lcmL fr 1 h (by decide)).2.2 f hf

abbrev fo_t1 : FG := gT 3 (gsCons (gN 3) (gsCons (gN 4) (gsCons (gN 5) (gsNil))))
noncomputable abbrev fo_g (fd ml : D → D → Option D) (ab : List D → Option D) : FS := sSet 1 (x2 (x2 (xVar 1) (xCall F_greatest_divisor (aCons (xVar 1) (aCons (xVar 5) (aNil)))) (pur2 fd)) (xA (aCons (xVar 5) (aNil)) (purA ab)) (pur2 ml))
noncomputable abbrev fo_b1 : FS := fo_g fdivD mulD absG
noncomputable abbrev fo_b2 : FS := sSeq (sSet 6 (xA (aCons (xLcP (wAny (xVar 0)) (gT 3 (gsCons (gN 7) (gsCons (gN 8) (gsCons (gN 9) (gsNil))))) [7, 8, 9] (tOf (x2 (xVar 7) (xVar 3) (pur2 opEq))) (x2 (xVar 8) (x2 (xVar 1) (xVar 9) (pur2 fdivD)) (pur2 mulD))) (aNil)) (purA sumG))) (sIf (tOf (x2 (xVar 6) (xC (.int 0)) (pur2 opNe))) (sDrop (onL 2 (aCons (xA (aCons (xVar 6) (aCons (xVar 3) (aNil))) (purA mkTup)) (aNil)) (apG 2))) (sNx))
theorem fo_gen {fd ml : D → D → Option D} {ab : List D → Option D} {d : D} {p g q l : Nat} {f : Fr} {x y4 y5 : Option Sl} {m : MS} (hG : F_greatest_divisor [.int (p : Nat), .int (f.2.2 : Nat)] m = .ok (.int (g : Nat)) [] m) (hd : fd (.int (p : Nat)) (.int (g : Nat)) = some (.int (q : Nat)))
    (ha : ab [.int (f.2.2 : Nat)] = some (.int (f.2.2 : Nat))) (hm : ml (.int (q : Nat)) (.int (f.2.2 : Nat)) = some (.int (l : Nat))) : turn fo_t1 [4, 5] (fo_g fd ml ab) (dFr f) [some (.fz d), some (.fz (.int (p : Nat))), none, x, y4, y5, none, none, none, none] m =
    .nx [some (.fz d), some (.fz (.int (l : Nat))), none, some (.fz (.int (f.1 : Nat))), none, none, none, none, none, none] m := by
  simp [hG, hd, hm, ha]
theorem fo_turn1 {d : D} {p : Nat} {f : Fr} {x y4 y5 : Option Sl} {m : MS} (q1 : 0 < p) (hsm : p ≤ 1000000000000) (hf : f.2.2 ≤ 1000000) : turn fo_t1 [4, 5] fo_b1 (dFr f) [some (.fz d), some (.fz (.int (p : Nat))), none, x, y4, y5, none, none, none, none] m =
    .nx [some (.fz d), some (.fz (.int (lcmS p f : Nat))), none, some (.fz (.int (f.1 : Nat))), none, none, none, none, none, none] m := by
  have hg : 0 < Int.gcd (p : Int) (f.2.2 : Nat) := by rw [Int.gcd_natCast_natCast]; exact Nat.gcd_pos_of_pos_left _ q1
  have hgp : Int.gcd (p : Int) (f.2.2 : Nat) ≤ p := by rw [Int.gcd_natCast_natCast]; exact Nat.gcd_le_left _ q1
  have e2 : lcmS p f = p / Int.gcd (p : Int) (f.2.2 : Nat) * f.2.2 := rfl
  have hG := gcd_ok (p : Int) (f.2.2 : Nat) m
  generalize Int.gcd (p : Int) (f.2.2 : Nat) = g at hg hgp e2 hG
  have hd := fdiv_sml (a := (p : Int)) hg (sml_12 (Nat.le_trans hgp hsm))
  have e1 : (p : Int) / (g : Nat) = ((p / g : Nat) : Int) := by simp
  have hm := mul_sml ((p / g : Nat) : Int) (b := f.2.2) (by omega)
  have e4 : (((p / g : Nat) : Int) * (f.2.2 : Nat)) = (lcmS p f : Nat) := by rw [e2]; simp
  rw [e4] at hm
  have e3 : absG [.int (f.2.2 : Nat)] = some (.int (f.2.2 : Nat)) := by
    rw [q_abs, if_neg (by omega)]
  rw [e1] at hd
  exact fo_gen hG hd e3 hm
theorem fo_turn2 {fr : List Fr} {L b : Nat} {x y6 y7 y8 y9 : Option Sl} {ts : List Tm} {m : MS} (hp : ∀ f ∈ fr, 0 < f.2.2 ∧ f.2.2 ≤ 1000000) (hL : L ≤ 1000000000000) (hl : ts.length < 16777216) (h7 : y7 = none) (h8 : y8 = none) (h9 : y9 = none) :
    turn (gN 3) [6, 7, 8, 9] fo_b2 (.int (b : Nat)) [some (.fz (.lst (fr.map dFr))), some (.fz (.int (L : Nat))), some (.ol (ts.map dT)), x, none, none, y6, y7, y8, y9] m =
    .nx [some (.fz (.lst (fr.map dFr))), some (.fz (.int (L : Nat))), some (.ol ((ts ++ if ((fr.filter fun f => decide (f.1 = b)).map fun f => qoF L f).sum = 0 then [] else [(((fr.filter fun f => decide (f.1 = b)).map fun f => qoF L f).sum, b)]).map dT)), some (.fz (.int (b : Nat))), none, none, none, none, none, none] m := by
  subst h7 h8 h9
  have es : sumG [.lst ((fr.filter fun f => decide (f.1 = b)).map fun f => .int (qoF L f))] = some (.int ((fr.filter fun f => decide (f.1 = b)).map fun f => qoF L f).sum) := q_sumF
  simp [-q_fdiv, -q_mul]
  rw [lcR_on (p := fun f : Fr => decide (f.1 = b)) (g := fun f : Fr => .int (qoF L f))]
  · by_cases z : ((fr.filter fun f => decide (f.1 = b)).map fun f => qoF L f).sum = 0
    · simp [es, z]
    · simp [es, z, hl]
  · intro f hf
    simp
    omega
  · intro f hf _
    have hd := fdiv_sml (a := (L : Int)) (hp f hf).1 (sml_12 (Nat.le_trans (hp f hf).2 (by decide)))
    have e1 : (L : Int) / (f.2.2 : Nat) = ((L / f.2.2 : Nat) : Int) := by simp
    have hm := mul_sml f.2.1 (b := L / f.2.2) (Nat.le_trans (Nat.div_le_self _ _) hL)
    rw [e1] at hd
    have e2 : f.2.1 * ((L / f.2.2 : Nat) : Int) = qoF L f := rfl
    rw [e2] at hm
    simp [hd, hm, -q_fdiv, -q_mul, -Int.natCast_ediv]
theorem form_of_ok {fr : List Fr} (h : Frs fr) (m : MS) : F_form_of [.lst (fr.map dFr)] m = .ok (dF (lowT (canon (coF fr)) (lcmF fr)) (lowP (canon (coF fr)) (lcmF fr))) [] m := by
  have hp : ∀ f ∈ fr, 0 < f.2.2 := fun f hf => (h.pos f hf).1
  have hL := lcmF_pos hp
  unfold F_form_of
  simp [defF_out, b_form_of]
  refine for_state (k := fun u => (U.sq u).out = _) (fun i e m1 => ∃ x : Option Sl, e = [some (.fz (.lst (fr.map dFr))), some (.fz (.int ((fr.take i).foldl lcmS 1 : Nat))), none, x, none, none, none, none, none, none] ∧ m1 = m) ⟨none, rfl, rfl⟩ ?_ ?_
  · rintro i f e m1 hf ⟨x, rfl, rfl⟩
    have hm := List.mem_of_getElem? hf
    have t1 : fr.take (i + 1) = fr.take i ++ [f] := by rw [List.take_add_one, hf]; rfl
    obtain ⟨q1, q2, _⟩ := lcmL (fr.take i) 1 (fun g hg => hp g (List.mem_of_mem_take hg)) (by decide)
    have hle : (fr.take i).foldl lcmS 1 ∣ lcmF fr := by
      have e : lcmF fr = (fr.drop i).foldl lcmS ((fr.take i).foldl lcmS 1) := by
        rw [← List.foldl_append, List.take_append_drop]
        rfl
      rw [e]
      exact (lcmL (fr.drop i) _ (fun g hg => hp g (List.mem_of_mem_drop hg)) q1).2.1
    have hsm : (fr.take i).foldl lcmS 1 ≤ 1000000000000 := Nat.le_trans (Nat.le_of_dvd hL hle) h.sm
    have ef : lcmS ((fr.take i).foldl lcmS 1) f = (fr.take (i + 1)).foldl lcmS 1 := by rw [t1, List.foldl_append]; rfl
    rw [← ef]
    exact ⟨_, _, fo_turn1 q1 hsm (h.pos f hm).2, _, rfl, rfl⟩
  · rintro e m1 ⟨x, rfl, rfl⟩
    rw [List.take_of_length_le (Nat.le_refl _)]
    have eL : fr.foldl lcmS 1 = lcmF fr := rfl
    rw [eL]
    have er : ∀ (E : Qd.Env), rng3G [.int 60, .int (-1), .int (-1)] E m1 = .ok (downs.map fun b => D.int (b : Nat)) E m1 := fun E => by
      rw [← rangeN_60]
      unfold rng3G
      exact if_pos (by decide)
    simp [er]
    refine for_state (k := fun u => (U.sq u).out = _) (fun i e m2 => ∃ x : Option Sl, e = [some (.fz (.lst (fr.map dFr))), some (.fz (.int (lcmF fr : Nat))), some (.ol ((((downs.take i).filter fun b => decide (coF fr b ≠ 0)).map fun b => (coF fr b, b)).map dT)), x, none, none, none, none, none, none] ∧ m2 = m1) ⟨_, rfl, rfl⟩ ?_ ?_
    · rintro i b e m2 hb ⟨x, rfl, rfl⟩
      have t1 : downs.take (i + 1) = downs.take i ++ [b] := by rw [List.take_add_one, hb]; rfl
      have hlen : (((downs.take i).filter fun b => decide (coF fr b ≠ 0)).map fun b => (coF fr b, b)).length < 16777216 := by
        have h1 := List.length_filter_le (fun b => decide (coF fr b ≠ 0)) (downs.take i)
        have h2 : (downs.take i).length ≤ 61 := by rw [List.length_take]; exact Nat.min_le_right _ _
        rw [List.length_map]
        omega
      refine ⟨_, _, fo_turn2 h.pos h.sm hlen rfl rfl rfl, some (.fz (.int (b : Nat))), ?_, rfl⟩
      rw [t1, List.filter_append, List.map_append]
      have e0 : ((fr.filter fun f => decide (f.1 = b)).map fun f => qoF (lcmF fr) f).sum = coF fr b := rfl
      rw [e0]
      by_cases z : coF fr b = 0
      · simp [z]
      · simp [z]
    · rintro e m2 ⟨x, rfl, rfl⟩
      rw [List.take_of_length_le (Nat.le_refl _)]
      have ec : ((downs.filter fun b => decide (coF fr b ≠ 0)).map fun b => (coF fr b, b)) = canon (coF fr) := rfl
      rw [ec]
      have mk := made_form (canon_tms (coF fr)) hL (sml_12 h.sm)
      simp [mk]
end Sp
end
section
set_option Elab.async false
set_option linter.all false
set_option autoImplicit false
set_option maxRecDepth 100000
namespace Qd
open PySem PySem.Spec PyProof.Rows L2
theorem Cod.via {α β : Type} [DecidableEq α] [DecidableEq β] {f : α → D} {k : Nat} (c : Cod f k) (g : β → α) (hg : ∀ a b, g a = g b → a = b) : Cod (fun b => f (g b)) k := ⟨fun b => c.pd (g b), fun a b p q h1 h2 => by
  rw [c.eq _ _ p q h1 h2]
  exact decide_eq_decide.mpr ⟨hg a b, fun e => by rw [e]⟩⟩
theorem Cod.op {α : Type} [DecidableEq α] {f : α → D} {k : Nat} (c : Cod f k) (hk : k ≤ 60) (a b : α) : opEq (f a) (f b) = some (.bl (decide (a = b))) := by
  unfold opEq
  rw [c.eqD hk]
  rfl
theorem Cod.opN {α : Type} [DecidableEq α] {f : α → D} {k : Nat} (c : Cod f k) (hk : k ≤ 60) (a b : α) : opNe (f a) (f b) = some (.bl (!decide (a = b))) := by
  unfold opNe
  rw [c.eqD hk]
  rfl
@[simp] theorem q_slL {l : List D} {a b : Option Int} : slG (.lst l) a b = some (.lst (cutD l a b)) := rfl
theorem cut_from {α : Type} (l : List α) (k : Nat) : cutD l (some (k : Int)) none = l.drop k := by
  unfold cutD
  rw [HT.sIx_none, HT.sIx_nat]
  by_cases h : k ≤ l.length
  · rw [Nat.min_eq_left h, List.take_of_length_le (by rw [List.length_drop]; omega)]
  · rw [Nat.min_eq_right (by omega), Nat.sub_self, List.drop_of_length_le (l := l) (i := k) (by omega)]
    rfl
end Qd
namespace Sp
open PySem PySem.Spec PyProof.Rows L2 Qd
theorem cod_T : Cod dT 2 := (cod_tup cod_int).via (fun t : Tm => [t.1, (t.2 : Int)]) fun a b h => by
  injection h with h1 h2
  injection h2 with h2 h3
  exact Prod.ext h1 (by omega)
theorem cod_Ts : Cod dTs 3 := cod_tup cod_T
theorem eq_Ts0 (ts : List Tm) : opEq (dTs ts) (.tup []) = some (.bl (decide (ts = []))) := cod_Ts.op (by decide) ts []
/-! ### turned signs -/
def negT (ts : List Tm) : List Tm := ts.map fun t => (-t.1, t.2)
theorem negT_tms {ts : List Tm} (h : Tms ts) : Tms (negT ts) where
  nz := fun t ht => by
    obtain ⟨u, hu, rfl⟩ := List.mem_map.mp ht
    have := h.nz u hu
    show -u.1 ≠ 0
    omega
  le := fun t ht => by
    obtain ⟨u, hu, rfl⟩ := List.mem_map.mp ht
    exact h.le u hu
  dec := by
    unfold negT
    rw [List.pairwise_map]
    exact h.dec
theorem shr_neg : ∀ (ts : List Tm) (p : Nat), shr (negT ts) p = shr ts p
  | [], p => rfl
  | t :: ts, p => by
    show shr (negT ts) (Int.gcd (p : Int) (-t.1)) = shr ts (Int.gcd (p : Int) t.1)
    rw [Int.gcd_neg, shr_neg ts]
/-- in lowest terms -/
structure Low (ts : List Tm) (p : Nat) : Prop where
  t : Tms ts
  pos : 0 < p
  le : p ≤ 1000000
  one : shr ts p = 1
theorem Low.same {ts : List Tm} {p : Nat} (h : Low ts p) : lowT ts p = ts ∧ lowP ts p = p := by
  unfold lowT lowP
  rw [h.one]
  simp
theorem shr_mul (k : Nat) : ∀ (ts : List Tm) (p : Nat), shr (ts.map fun t => ((k : Int) * t.1, t.2)) (k * p) = k * shr ts p
  | [], p => rfl
  | t :: ts, p => by
    show shr (ts.map fun t => ((k : Int) * t.1, t.2)) (Int.gcd ((k * p : Nat) : Int) ((k : Int) * t.1)) = k * shr ts (Int.gcd (p : Int) t.1)
    rw [← shr_mul k ts]
    congr 1
    rw [Int.natCast_mul, Int.gcd_mul_left]
    simp
theorem low_low {ts : List Tm} {p : Nat} (h : Tms ts) (hp : 0 < p) (hs : p ≤ 1000000) : Low (lowT ts p) (lowP ts p) where
  t := lowT_tms h hp
  pos := lowP_pos hp
  le := Nat.le_trans (Nat.div_le_self _ _) hs
  one := by
    have hg := shr_pos (ts := ts) hp
    obtain ⟨d1, d2⟩ := shr_dvd ts p
    have e := shr_mul (shr ts p) (lowT ts p) (lowP ts p)
    have e1 : (lowT ts p).map (fun t => (((shr ts p : Nat) : Int) * t.1, t.2)) = ts := by
      unfold lowT
      rw [List.map_map]
      conv => rhs; rw [← List.map_id ts]
      apply List.map_congr_left
      intro t ht
      simp only [Function.comp, id]
      rw [Int.mul_ediv_cancel' (d2 t ht)]
    have e2 : shr ts p * lowP ts p = p := Nat.mul_div_cancel' d1
    rw [e1, e2] at e
    have : shr ts p * shr (lowT ts p) (lowP ts p) = shr ts p * 1 := by omega
    exact Nat.eq_of_mul_eq_mul_left hg this
theorem Low.neg {ts : List Tm} {p : Nat} (h : Low ts p) : Low (negT ts) p := ⟨negT_tms h.t, h.pos, h.le, by rw [shr_neg]; exact h.one⟩
theorem lcm_same {p : Nat} (hp : 0 < p) : ∀ (fr : List Fr), (∀ f ∈ fr, f.2.2 = p) → fr.foldl lcmS p = p
  | [], _ => rfl
  | f :: fr, h => by
    have e := h f List.mem_cons_self
    rw [List.foldl_cons, lcmS_lcm, e, Nat.lcm_self]
    exact lcm_same hp fr fun g hg => h g (List.mem_cons_of_mem _ hg)
theorem lcmF_same {p : Nat} (hp : 0 < p) {fr : List Fr} (h : ∀ f ∈ fr, f.2.2 = p) (hn : fr ≠ []) : lcmF fr = p := by
  cases fr with
  | nil => exact absurd rfl hn
  | cons f fr =>
    have e := h f List.mem_cons_self
    show fr.foldl lcmS (lcmS 1 f) = p
    rw [lcmS_lcm, e, Nat.lcm_one_left]
    exact lcm_same hp fr fun g hg => h g (List.mem_cons_of_mem _ hg)
theorem neg_form {ts : List Tm} {p : Nat} (h : Low ts p) (m : MS) : F_Form_neg [dF ts p] m = .ok (dF (negT ts) p) [] m := by
  have hp := h.pos
  have e0 : ∀ f ∈ ts.map (fun t => ((t.2, -t.1, p) : Fr)), f.2.2 = p := fun f hf => by
    obtain ⟨t, _, rfl⟩ := List.mem_map.mp hf
    rfl
  have eL : ts ≠ [] → lcmF (ts.map fun t => ((t.2, -t.1, p) : Fr)) = p := fun hn => lcmF_same hp e0 (by simpa using hn)
  have hF : Frs (ts.map fun t => ((t.2, -t.1, p) : Fr)) := ⟨fun f hf => by rw [e0 f hf]; exact ⟨hp, h.le⟩, by
    by_cases hn : ts = []
    · subst hn
      show (1 : Nat) ≤ _
      decide
    · rw [eL hn]
      have := h.le
      omega⟩
  have fo := form_of_ok hF m
  have ec : canon (coF (ts.map fun t => ((t.2, -t.1, p) : Fr))) = negT ts := by
    refine canon_of h.neg.t fun b _ => ?_
    unfold coF coT negT
    rw [List.filter_map, List.map_map, List.filter_map, List.map_map]
    congr 1
    apply List.map_congr_left
    intro t ht
    have hn : ts ≠ [] := fun e => by
      rw [e] at ht
      simp at ht
    simp only [Function.comp, qoF]
    rw [eL hn, Nat.div_self hp]
    simp
  have e1 : lowT (negT ts) (lcmF (ts.map fun t => ((t.2, -t.1, p) : Fr))) = negT ts ∧ lowP (negT ts) (lcmF (ts.map fun t => ((t.2, -t.1, p) : Fr))) = p := by
    by_cases hn : ts = []
    · subst hn
      have := h.one
      have e2 : p = 1 := this
      subst e2
      exact low1 []
    · rw [eL hn]
      exact h.neg.same
  rw [ec, e1.1, e1.2] at fo
  unfold F_Form_neg
  simp [defF_out, b_Form_neg, sums_is, under_is]
  have e3 : (ts.map fun t => D.tup [.int (t.2 : Nat), .int (-t.1), .int (p : Nat)]) = (ts.map fun t => ((t.2, -t.1, p) : Fr)).map dFr := by
    rw [List.map_map]
    rfl
  rw [e3, fo]
  simp
theorem abs_nat (x : Int) : absG [.int x] = some (.int (x.natAbs : Nat)) := by
  rw [q_abs, natAbs_if]
end Sp
end
section
set_option Elab.async false
set_option linter.all false
set_option autoImplicit false
set_option maxRecDepth 100000
namespace Sp
open PySem PySem.Spec PyProof.Rows L2 Qd
/-! ### sums -/
def pw (t : Tm) (n : Nat) : Int := t.1 * (t.2 : Int) ^ n
def szs (ts : List Tm) (n : Nat) : List Int := ts.map fun t => pw t n
def smT (ts : List Tm) (n : Nat) : Int := (szs ts n).sum
def sgn (x : Int) : Int := if x = 0 then 0 else if 0 < x then 1 else -1
theorem sgn_neg (x : Int) : sgn (-x) = -sgn x := by unfold sgn; split <;> split <;> (try split) <;> (try split) <;> omega
theorem pw_succ (t : Tm) (n : Nat) : pw t (n + 1) = pw t n * (t.2 : Nat) := by
  unfold pw
  rw [Int.pow_succ, Int.mul_assoc]
theorem sign_ok (x : Int) (m : MS) : F_sign_of [.int x] m = .ok (.int (sgn x)) [] m := by
  unfold F_sign_of sgn
  by_cases h : x = 0
  · simp [defF_out, b_sign_of, h]
  · by_cases h2 : 0 < x <;> simp [defF_out, b_sign_of, h, h2]
theorem lsign_ok (x : Int) (m : MS) : F_law_sign_of [.int x] m = .ok (.int (sgn x)) [] m := by
  unfold F_law_sign_of sgn
  by_cases h : x = 0
  · simp [defF_out, b_law_sign_of, h]
  · by_cases h2 : 0 < x <;> simp [defF_out, b_law_sign_of, h, h2]
/-- from here on the first one rules -/
def rld (ts : List Tm) (n : Nat) : Bool := match ts with
  | [] => true
  | t :: r => if t.2 = 0 then decide (0 < n) else decide (((r.map fun u => ((pw u n).natAbs : Int)).sum : Int) < ((pw t n).natAbs : Int))
theorem ruled_ok (ts : List Tm) (n : Nat) (m : MS) : F_is_ruled [dTs ts, .lst ((szs ts n).map .int), .int (n : Nat)] m = .ok (.bl (rld ts n)) [] m := by
  unfold F_is_ruled rld
  cases ts with
  | nil => simp [defF_out, b_is_ruled, eq_Ts0]
  | cons t r =>
    have ec : cutD (D.int (pw t n) :: r.map fun u => D.int (pw u n)) (some 1) none = r.map fun u => D.int (pw u n) := cut_from _ 1
    by_cases h : t.2 = 0
    · simp [defF_out, b_is_ruled, eq_Ts0, szs, h]
    · have es := q_sumF (l := r) (f := fun u => ((pw u n).natAbs : Int))
      simp [defF_out, b_is_ruled, eq_Ts0, szs, h, abs_nat, -q_abs, oSome, Function.comp_def, ec, es]
theorem lrules_ok (ts : List Tm) (n : Nat) (hn : 0 < n) (m : MS) : F_law_rules [.lst ((szs ts n).map .int), dTs ts] m = .ok (.bl (rld ts n)) [] m := by
  unfold F_law_rules rld
  cases ts with
  | nil => simp [defF_out, b_law_rules, eq_Ts0]
  | cons t r =>
    have ec : cutD (D.int (pw t n) :: r.map fun u => D.int (pw u n)) (some 1) none = r.map fun u => D.int (pw u n) := cut_from _ 1
    by_cases h : t.2 = 0
    · simp [defF_out, b_law_rules, eq_Ts0, szs, h, hn]
    · have es := q_sumF (l := r) (f := fun u => ((pw u n).natAbs : Int))
      simp [defF_out, b_law_rules, eq_Ts0, szs, h, abs_nat, -q_abs, oSome, Function.comp_def, ec, es]
/-! ### the turns -/
def trn (s : Nat → Int) : Nat → List (Nat × Int)
  | 0 => [(0, s 0)]
  | n + 1 => if s (n + 1) = s n then trn s n else trn s n ++ [(n + 1, s (n + 1))]
abbrev dTn (x : Nat × Int) : D := .tup [.int (x.1 : Nat), .int x.2]
theorem trn_last (s : Nat → Int) : ∀ n, ∃ k, (trn s n).getLast? = some (k, s n)
  | 0 => ⟨0, rfl⟩
  | n + 1 => by
    obtain ⟨k, h⟩ := trn_last s n
    unfold trn
    split
    · rename_i e
      exact ⟨k, by rw [h, e]⟩
    · exact ⟨n + 1, by simp⟩
theorem trn_ne (s : Nat → Int) (n : Nat) : trn s n ≠ [] := by
  obtain ⟨k, h⟩ := trn_last s n
  intro e
  rw [e] at h
  simp at h
theorem trn_len (s : Nat → Int) : ∀ n, (trn s n).length ≤ n + 1
  | 0 => Nat.le_refl _
  | n + 1 => by
    have := trn_len s n
    unfold trn
    split
    · omega
    · simp
      omega
theorem trn_stay {s : Nat → Int} {N : Nat} (h : ∀ n, N ≤ n → s n = s N) : ∀ k, trn s (N + k) = trn s N
  | 0 => rfl
  | k + 1 => by
    rw [show N + (k + 1) = (N + k) + 1 by omega, trn, if_pos (by rw [h (N + k + 1) (by omega), h (N + k) (by omega)]), trn_stay h k]
def sg (ts : List Tm) (n : Nat) : Int := sgn (smT ts n)
theorem last_at (s : Nat → Int) (n : Nat) : ∃ k : Nat, L2.atI ((trn s n).map dTn) (-1) = some (dTn (k, s n)) := by
  obtain ⟨k, h⟩ := trn_last s n
  refine ⟨k, ?_⟩
  rw [atI_last _ (by simpa using trn_ne s n), List.getLast?_map, h]
  rfl
/-- the terms' sizes at the next number -/
theorem next_sz {ts : List Tm} {n : Nat} : (ts.map fun t => D.int (pw t n * (t.2 : Nat))) = (szs ts (n + 1)).map .int := by
  unfold szs
  rw [List.map_map]
  apply List.map_congr_left
  intro t _
  simp only [Function.comp]
  rw [pw_succ]
noncomputable abbrev ft_t : FT := tNt (tOf (xCall F_is_ruled (aCons (x1 (xVar 0) (pur1 (fldG "Form" "sums"))) (aCons (xVar 1) (aCons (xVar 3) (aNil))))))
noncomputable abbrev ft_b : FS := sSeq (sSet 1 (xLcP (wZipM (aCons (xVar 1) (aCons (x1 (xVar 0) (pur1 (fldG "Form" "sums"))) (aNil)))) (gT 2 (gsCons (gN 6) (gsCons (gT 2 (gsCons (gN 4) (gsCons (gN 5) (gsNil)))) (gsNil)))) [6, 4, 5] (tAll) (x2 (xVar 6) (xVar 5) (pur2 mulD)))) (sSeq (sSet 3 (x2 (xVar 3) (xC (.int 1)) (pur2 addD))) (sIf (tOf (x2 (xCall F_sign_of (aCons (xA (aCons (xVar 1) (aNil)) (purA sumG)) (aNil))) (x2 (xIxN 2 (x1 (xC (.int 1)) (pur1 negD))) (xC (.int 1)) ixG) (pur2 opNe))) (sDrop (onL 2 (aCons (xA (aCons (xVar 3) (aCons (xCall F_sign_of (aCons (xA (aCons (xVar 1) (aNil)) (purA sumG)) (aNil))) (aNil))) (purA mkTup)) (aNil)) (apG 2))) (sNx)))
def ftE (ts : List Tm) (p n : Nat) : Qd.Env := [some (.fz (dF ts p)), some (.fz (.lst ((szs ts n).map .int))), some (.ol ((trn (sg ts) n).map dTn)), some (.fz (.int (n : Nat))), none, none, none]
theorem zip_szs (ts : List Tm) (n : Nat) : zipD ((szs ts n).map .int) (ts.map dT) = ts.map fun t => D.tup [.int (pw t n), dT t] := by
  rw [zipD_map]
  unfold szs
  rw [zip_self, List.map_map]
  rfl
theorem ft_test (ts : List Tm) (p n : Nat) (m : MS) : ft_t (ftE ts p n) m = .ok (!rld ts n) (ftE ts p n) m := by
  simp [ftE, sums_is, ruled_ok]
theorem ft_body {ts : List Tm} (h : Tms ts) (p n : Nat) (hn : n ≤ 10000) (m : MS) : ft_b (ftE ts p n) m = .nx (ftE ts p (n + 1)) m := by
  obtain ⟨k, hk⟩ := last_at (sg ts) n
  have hl := trn_len (sg ts) n
  have hm : ∀ t ∈ ts, mulD (.int (pw t n)) (.int (t.2 : Nat)) = some (.int (pw t n * (t.2 : Nat))) := fun t ht => mul_sml _ (by have := h.le t ht; omega)
  have hs : sgn ((szs ts (n + 1)).sum) = sg ts (n + 1) := rfl
  have nx := next_sz (ts := ts) (n := n)
  have tr : trn (sg ts) (n + 1) = if sg ts (n + 1) = sg ts n then trn (sg ts) n else trn (sg ts) n ++ [(n + 1, sg ts (n + 1))] := rfl
  have hz := zip_szs ts n
  unfold ftE
  rw [tr]
  generalize (szs ts n).map D.int = Z at *
  obtain ⟨q, hq⟩ : ∃ q, q = n + 1 := ⟨_, rfl⟩
  rw [← hq] at hs nx ⊢
  have e1 : ((n : Int) + 1) = (q : Nat) := by omega
  have hlt : (trn (sg ts) n).length < 16777216 := by omega
  generalize trn (sg ts) n = T at *
  simp [sums_is, hz, -q_mul]
  rw [lcR_on (p := fun _ => true) (g := fun t : Tm => .int (pw t n * (t.2 : Nat))) (fun _ _ => rfl)]
  · rw [filter_tt, nx]
    generalize szs ts q = z at *
    by_cases r : sg ts q = sg ts n
    · simp [sign_ok, hk, hs, r, e1]
    · simp [sign_ok, hk, hs, r, e1, hlt]
  · intro t ht _
    simp [hm t ht, -q_mul]
theorem turns_ok {ts : List Tm} {p N : Nat} (h : Tms ts) (hN : N ≤ 9999) (h1 : rld ts N = true) (h2 : ∀ n, n < N → rld ts n = false) (m : MS) : F_Form_turns [dF ts p] m = .ok (.tup ((trn (sg ts) N).map dTn)) [] m := by
  have hr := runWh_to (t := ft_t) (body := ft_b) (m := m) (ftE ts p) N (fun n hn => by
    rw [ft_test]
    by_cases z : n < N
    · rw [h2 n z]
      simp [z]
    · have : n = N := by omega
      subst this
      rw [h1]
      simp) (fun n hn => ft_body h p n (by omega) m) N 0 (by omega)
  have e0 : (szs ts 0).map D.int = ts.map fun t => D.int t.1 := by
    unfold szs
    rw [List.map_map]
    apply List.map_congr_left
    intro t _
    simp [pw]
  have e1 : ftE ts p 0 = [some (.fz (dF ts p)), some (.fz (.lst (ts.map fun t => D.int t.1))), some (.ol [D.tup [.int 0, .int (sg ts 0)]]), some (.fz (.int 0)), none, none, none] := by
    unfold ftE
    rw [e0]
    rfl
  have hs : sgn ((szs ts 0).sum) = sg ts 0 := rfl
  have es : sumG [.lst (ts.map fun t => D.int t.1)] = some (.int ((szs ts 0).sum)) := by
    rw [← e0, q_sumI]
  unfold F_Form_turns
  simp [defF_out, b_Form_turns, sums_is]
  simp [es, sign_ok, hs]
  rw [← e1, sWh_is (n := N + 1) (by rw [hr]; intro z; cases z), hr]
  simp [ftE]
end Sp
end
section
set_option Elab.async false
set_option linter.all false
set_option autoImplicit false
set_option maxRecDepth 100000
namespace Sp
open PySem PySem.Spec PyProof.Rows L2 Qd
/-! ### forms told by their fractions -/
def vl (ts : List Tm) (p : Nat) (b : Nat) : Rat := Rat.divInt (coT ts b) (p : Nat)
def scl (k : Nat) (ts : List Tm) : List Tm := ts.map fun t => ((k : Int) * t.1, t.2)
theorem scl_tms {ts : List Tm} (h : Tms ts) {k : Nat} (hk : 0 < k) : Tms (scl k ts) where
  nz := fun t ht => by
    obtain ⟨u, hu, rfl⟩ := List.mem_map.mp ht
    have h1 := h.nz u hu
    exact Int.mul_ne_zero (by omega) h1
  le := fun t ht => by
    obtain ⟨u, hu, rfl⟩ := List.mem_map.mp ht
    exact h.le u hu
  dec := by
    unfold scl
    rw [List.pairwise_map]
    exact h.dec
theorem coT_scl (k : Nat) : ∀ (ts : List Tm) (b : Nat), coT (scl k ts) b = k * coT ts b
  | [], b => by simp [scl, coT]
  | t :: ts, b => by
    rw [show scl k (t :: ts) = ((k : Int) * t.1, t.2) :: scl k ts from rfl, coT_cons, coT_cons, coT_scl k ts b, Int.mul_add]
    simp only
    split <;> simp
theorem low_scl {ts : List Tm} {p k : Nat} (hk : 0 < k) (hp : 0 < p) : lowT (scl k ts) (k * p) = lowT ts p ∧ lowP (scl k ts) (k * p) = lowP ts p := by
  have e := shr_mul k ts p
  have e1 : shr (scl k ts) (k * p) = k * shr ts p := e
  constructor
  · unfold lowT
    rw [e1]
    unfold scl
    rw [List.map_map]
    apply List.map_congr_left
    intro t _
    simp only [Function.comp]
    rw [Int.natCast_mul, Int.mul_ediv_mul_of_pos _ _ (by omega)]
  · unfold lowP
    rw [e1, Nat.mul_div_mul_left _ _ hk]
theorem tms_eq {ts us : List Tm} (h : Tms ts) (k : Tms us) (e : ∀ b, b ≤ 60 → coT ts b = coT us b) : ts = us := by
  rw [← canon_of h (co := coT ts) fun _ _ => rfl]
  exact canon_of k e
theorem low_eq {ts us : List Tm} {p q : Nat} (h : Tms ts) (k : Tms us) (hp : 0 < p) (hq : 0 < q) (e : ∀ b, b ≤ 60 → vl ts p b = vl us q b) : lowT ts p = lowT us q ∧ lowP ts p = lowP us q := by
  have e1 : scl q ts = scl p us := tms_eq (scl_tms h hq) (scl_tms k hp) fun b hb => by
    rw [coT_scl, coT_scl]
    have := (Rat.divInt_eq_divInt_iff (by omega) (by omega)).mp (e b hb)
    rw [Int.mul_comm, this, Int.mul_comm]
  obtain ⟨a1, a2⟩ := low_scl (ts := ts) hq hp
  obtain ⟨b1, b2⟩ := low_scl (ts := us) hp hq
  rw [← a1, ← a2, ← b1, ← b2, e1, Nat.mul_comm p q]
  exact ⟨rfl, rfl⟩
theorem vl_scl {ts : List Tm} {p k : Nat} (hk : 0 < k) (hp : 0 < p) (b : Nat) : vl (scl k ts) (k * p) b = vl ts p b := by
  unfold vl
  rw [coT_scl]
  refine (Rat.divInt_eq_divInt_iff ?_ ?_).mpr ?_
  · have := Nat.mul_pos hk hp
    omega
  · omega
  · rw [Int.natCast_mul]
    grind
theorem low_back {ts : List Tm} {p : Nat} (hp : 0 < p) : scl (shr ts p) (lowT ts p) = ts ∧ shr ts p * lowP ts p = p := by
  obtain ⟨d1, d2⟩ := shr_dvd ts p
  constructor
  · unfold scl lowT
    rw [List.map_map]
    conv => rhs; rw [← List.map_id ts]
    apply List.map_congr_left
    intro t ht
    simp only [Function.comp, id]
    rw [Int.mul_ediv_cancel' (d2 t ht)]
  · exact Nat.mul_div_cancel' d1
theorem vl_low {ts : List Tm} {p : Nat} (hp : 0 < p) (b : Nat) : vl (lowT ts p) (lowP ts p) b = vl ts p b := by
  obtain ⟨e1, e2⟩ := low_back (ts := ts) hp
  have := vl_scl (ts := lowT ts p) (shr_pos (ts := ts) hp) (lowP_pos (ts := ts) hp) b
  rw [e1, e2] at this
  exact this.symm
theorem low_uniq {ts us : List Tm} {p q : Nat} (h : Low ts p) (k : Low us q) (e : ∀ b, b ≤ 60 → vl ts p b = vl us q b) : ts = us ∧ p = q := by
  obtain ⟨a1, a2⟩ := h.same
  obtain ⟨b1, b2⟩ := k.same
  have := low_eq h.t k.t h.pos k.pos e
  rwa [a1, a2, b1, b2] at this
theorem coT_canon (co : Nat → Int) {b : Nat} (hb : b ≤ 60) : coT (canon co) b = co b := by
  by_cases z : co b = 0
  · rw [z]
    refine coT_not fun t ht e => ?_
    obtain ⟨_, h2, h3⟩ := canon_mem.mp ht
    rw [e] at h2
    omega
  · have : (co b, b) ∈ canon co := canon_mem.mpr ⟨hb, rfl, z⟩
    exact coT_at (canon_tms co).dec this
/-! ### sums of fractions -/
def vF (fr : List Fr) (b : Nat) : Rat := ((fr.filter fun f => decide (f.1 = b)).map fun f => Rat.divInt f.2.1 (f.2.2 : Nat)).sum
theorem div_sum {L : Nat} (hL : 0 < L) : ∀ (l : List Fr), (∀ f ∈ l, 0 < f.2.2 ∧ f.2.2 ∣ L) → Rat.divInt (l.map fun f => qoF L f).sum (L : Nat) = (l.map fun f => Rat.divInt f.2.1 (f.2.2 : Nat)).sum
  | [], _ => by simp [Rat.zero_divInt]
  | f :: l, h => by
    have ih := div_sum hL l fun g hg => h g (List.mem_cons_of_mem _ hg)
    obtain ⟨h1, k, hk⟩ := h f List.mem_cons_self
    rw [List.map_cons, List.map_cons, List.sum_cons, List.sum_cons, ← ih, Rat.divInt_add_divInt _ _ (by omega) (by omega), Rat.divInt_eq_divInt_iff (by omega) (Int.mul_ne_zero (by omega) (by omega))]
    have e : qoF L f = f.2.1 * (k : Nat) := by
      unfold qoF
      rw [hk, Nat.mul_div_cancel_left _ h1]
    rw [e]
    have e2 : (L : Int) = (f.2.2 : Nat) * (k : Nat) := by rw [hk, Int.natCast_mul]
    grind
theorem vl_form {fr : List Fr} (h : ∀ f ∈ fr, 0 < f.2.2) {b : Nat} (hb : b ≤ 60) : vl (canon (coF fr)) (lcmF fr) b = vF fr b := by
  unfold vl vF
  rw [coT_canon _ hb]
  exact div_sum (lcmF_pos h) _ fun f hf => by
    have := (List.mem_filter.mp hf).1
    exact ⟨h f this, lcmF_dvd h this⟩
theorem vF_app (a c : List Fr) (b : Nat) : vF (a ++ c) b = vF a b + vF c b := by
  unfold vF
  rw [List.filter_append, List.map_append, List.sum_append]
/-- terms as fractions, all times s -/
def frT (s : Int) (ts : List Tm) (p : Nat) : List Fr := ts.map fun t => (t.2, t.1 * s, p)
theorem vF_T (s : Int) {p : Nat} (hp : 0 < p) : ∀ (ts : List Tm) (b : Nat), vF (frT s ts p) b = vl ts p b * (s : Rat)
  | [], b => by
    simp [vF, frT, vl, coT, Rat.zero_divInt]
  | t :: ts, b => by
    have ih := vF_T s hp ts b
    rw [show frT s (t :: ts) p = [(t.2, t.1 * s, p)] ++ frT s ts p from rfl, vF_app, ih]
    unfold vl
    rw [coT_cons]
    by_cases h : t.2 = b
    · have e : vF [(t.2, t.1 * s, p)] b = Rat.divInt (t.1 * s) (p : Nat) := by
        simp [vF, h, Rat.add_zero]
      rw [e, if_pos h]
      have e1 : Rat.divInt (t.1 * s) (p : Nat) = Rat.divInt t.1 (p : Nat) * (s : Rat) := by
        have := Rat.divInt_mul_divInt t.1 s (d₁ := (p : Int)) (d₂ := 1)
        rw [Int.mul_one] at this
        rw [← this]
        congr 1
        rw [show (1 : Int) = ((1 : Nat) : Int) from rfl, Rat.divInt_ofNat, Rat.mkRat_one]
      have e2 : Rat.divInt (t.1 + coT ts b) (p : Nat) = Rat.divInt t.1 (p : Nat) + Rat.divInt (coT ts b) (p : Nat) := by
        rw [Rat.divInt_add_divInt _ _ (by omega) (by omega), Rat.divInt_eq_divInt_iff (by omega) (Int.mul_ne_zero (by omega) (by omega))]
        grind
      rw [e1, e2, Rat.add_mul]
    · have e : vF [(t.2, t.1 * s, p)] b = 0 := by
        simp [vF, h]
      rw [e, if_neg h, Rat.zero_add, Int.zero_add]
theorem lcmL_dvd {M : Nat} : ∀ (fr : List Fr) (p : Nat), p ∣ M → (∀ f ∈ fr, f.2.2 ∣ M) → fr.foldl lcmS p ∣ M
  | [], p, h, _ => h
  | f :: fr, p, h, k => by
    rw [List.foldl_cons]
    refine lcmL_dvd fr _ ?_ fun g hg => k g (List.mem_cons_of_mem _ hg)
    rw [lcmS_lcm]
    exact Nat.lcm_dvd h (k f List.mem_cons_self)
theorem lcmF_le {fr : List Fr} {M : Nat} (hM : 0 < M) (k : ∀ f ∈ fr, f.2.2 ∣ M) : lcmF fr ≤ M := Nat.le_of_dvd hM (lcmL_dvd fr 1 (Nat.one_dvd _) k)
/-- a form in lowest terms: parts up to P, coefficients up to B in size -/
structure Fm (ts : List Tm) (p P B : Nat) : Prop where
  low : Low ts p
  le : p ≤ P
  b : ∀ t ∈ ts, t.1.natAbs ≤ B
theorem Fm.mono {ts : List Tm} {p P B P' B' : Nat} (h : Fm ts p P B) (hP : P ≤ P') (hB : B ≤ B') : Fm ts p P' B' := ⟨h.low, Nat.le_trans h.le hP, fun t ht => Nat.le_trans (h.b t ht) hB⟩
theorem lowT_b {ts : List Tm} {p B : Nat} (h : ∀ t ∈ ts, t.1.natAbs ≤ B) : ∀ t ∈ lowT ts p, t.1.natAbs ≤ B := fun t ht => by
  obtain ⟨u, hu, rfl⟩ := List.mem_map.mp ht
  exact Nat.le_trans (Int.natAbs_ediv_le_natAbs _ _) (h u hu)
theorem made_fm {ts : List Tm} {p B : Nat} (h : Tms ts) (hp : 0 < p) (hs : p ≤ 1000000) (hb : ∀ t ∈ ts, t.1.natAbs ≤ B) : Fm (lowT ts p) (lowP ts p) p B := ⟨low_low h hp hs, Nat.div_le_self _ _, lowT_b hb⟩
theorem sum_abs (L : Nat) (B : Nat) : ∀ (l : List Fr), (∀ f ∈ l, f.2.1.natAbs ≤ B) → ((l.map fun f => qoF L f).sum).natAbs ≤ l.length * (B * L)
  | [], _ => by simp
  | f :: l, h => by
    have ih := sum_abs L B l fun g hg => h g (List.mem_cons_of_mem _ hg)
    have h1 := h f List.mem_cons_self
    have h2 : (qoF L f).natAbs ≤ B * L := by
      unfold qoF
      rw [Int.natAbs_mul, Int.natAbs_natCast]
      exact Nat.mul_le_mul h1 (Nat.div_le_self _ _)
    rw [List.map_cons, List.sum_cons, List.length_cons, Nat.add_mul]
    have := Int.natAbs_add_le (qoF L f) (l.map fun f => qoF L f).sum
    omega
/-- the sum of two forms, the second one times s -/
theorem sum_fm {fr : List Fr} {M B n : Nat} (h : ∀ f ∈ fr, 0 < f.2.2 ∧ f.2.2 ∣ M) (hM : 0 < M) (hM2 : M ≤ 1000000) (hb : ∀ f ∈ fr, f.2.1.natAbs ≤ B) (hn : fr.length ≤ n) (m : MS) :
    ∃ ts p, F_form_of [.lst (fr.map dFr)] m = .ok (dF ts p) [] m ∧ Fm ts p M (n * (B * M)) ∧ ∀ b, b ≤ 60 → vl ts p b = vF fr b := by
  have hp : ∀ f ∈ fr, 0 < f.2.2 := fun f hf => (h f hf).1
  have hL := lcmF_le hM fun f hf => (h f hf).2
  have fo := form_of_ok (fr := fr) ⟨fun f hf => ⟨hp f hf, by have := Nat.le_of_dvd hM (h f hf).2; omega⟩, by omega⟩ m
  refine ⟨_, _, fo, (made_fm (canon_tms _) (lcmF_pos hp) (by omega) (B := n * (B * M)) fun t ht => ?_).mono hL (Nat.le_refl _), fun b hb => by rw [vl_low (lcmF_pos hp), vl_form hp hb]⟩
  obtain ⟨_, h2, _⟩ := canon_mem.mp ht
  rw [← h2]
  have h3 := sum_abs (lcmF fr) B (fr.filter fun f => decide (f.1 = t.2)) fun f hf => hb f (List.mem_filter.mp hf).1
  have h4 := List.length_filter_le (fun f : Fr => decide (f.1 = t.2)) fr
  exact Nat.le_trans h3 (Nat.mul_le_mul (by omega) (Nat.mul_le_mul (Nat.le_refl _) hL))
theorem check_form_ok (ts : List Tm) (p : Nat) (m : MS) : F_check_form [dF ts p] m = .ok .non [] m := by
  unfold F_check_form
  have : isCG "Form" (clsB "Form") [dF ts p, .glo "Form"] = some (.bl true) := by rfl
  simp [defF_out, b_check_form, this]
theorem Tms.len {ts : List Tm} (h : Tms ts) : ts.length ≤ 61 := by
  have hd : (ts.map (·.2)).Nodup := by
    rw [List.Nodup, List.pairwise_map]
    exact h.dec.imp fun h => by omega
  have := nodup_le hd (r := downs) fun b hb => by
    obtain ⟨t, ht, rfl⟩ := List.mem_map.mp hb
    exact downs_mem.mpr (h.le t ht)
  rw [List.length_map] at this
  exact Nat.le_trans this (Nat.le_refl 61)
theorem frT_dFr (s : Int) (ts : List Tm) (p : Nat) : (frT s ts p).map dFr = ts.map fun t => D.tup [.int (t.2 : Nat), .int (t.1 * s), .int (p : Nat)] := by
  unfold frT
  rw [List.map_map]
  rfl
theorem add_fm {ts us : List Tm} {p q P Q B C : Nat} (h : Fm ts p P B) (k : Fm us q Q C) (hM : p * q ≤ 1000000) (m : MS) :
    ∃ vs r, F_Form_add [dF ts p, dF us q] m = .ok (dF vs r) [] m ∧ Fm vs r (p * q) (122 * ((B + C) * (p * q))) ∧ ∀ b, b ≤ 60 → vl vs r b = vl ts p b + vl us q b := by
  obtain ⟨vs, r, h1, h2, h3⟩ := sum_fm (fr := frT 1 ts p ++ frT 1 us q) (M := p * q) (B := B + C) (n := 122) (fun f hf => by
    rcases List.mem_append.mp hf with hf | hf
    · obtain ⟨t, ht, rfl⟩ := List.mem_map.mp hf
      exact ⟨h.low.pos, Nat.dvd_mul_right _ _⟩
    · obtain ⟨t, ht, rfl⟩ := List.mem_map.mp hf
      exact ⟨k.low.pos, Nat.dvd_mul_left _ _⟩) (Nat.mul_pos h.low.pos k.low.pos) hM (fun f hf => by
    rcases List.mem_append.mp hf with hf | hf
    · obtain ⟨t, ht, rfl⟩ := List.mem_map.mp hf
      have := h.b t ht
      simp only [Int.mul_one]
      omega
    · obtain ⟨t, ht, rfl⟩ := List.mem_map.mp hf
      have := k.b t ht
      simp only [Int.mul_one]
      omega) (by
    rw [List.length_append]
    unfold frT
    rw [List.length_map, List.length_map]
    have := h.low.t.len
    have := k.low.t.len
    omega) m
  refine ⟨vs, r, ?_, h2, fun b hb => by rw [h3 b hb, vF_app, vF_T 1 h.low.pos, vF_T 1 k.low.pos]; simp⟩
  rw [List.map_append, frT_dFr, frT_dFr] at h1
  simp only [Int.mul_one] at h1
  have l1 := h.low.t.len
  have l2 := k.low.t.len
  have l3 : ts.length + us.length ≤ 16777216 := by omega
  unfold F_Form_add
  simp [defF_out, b_Form_add, sums_is, under_is, check_form_ok, aStar, l3, h1]
theorem sub_fm {ts us : List Tm} {p q P Q B C : Nat} (h : Fm ts p P B) (k : Fm us q Q C) (hM : p * q ≤ 1000000) (m : MS) :
    ∃ vs r, F_Form_sub [dF ts p, dF us q] m = .ok (dF vs r) [] m ∧ Fm vs r (p * q) (122 * ((B + C) * (p * q))) ∧ ∀ b, b ≤ 60 → vl vs r b = vl ts p b - vl us q b := by
  obtain ⟨vs, r, h1, h2, h3⟩ := sum_fm (fr := frT 1 ts p ++ frT (-1) us q) (M := p * q) (B := B + C) (n := 122) (fun f hf => by
    rcases List.mem_append.mp hf with hf | hf
    · obtain ⟨t, ht, rfl⟩ := List.mem_map.mp hf
      exact ⟨h.low.pos, Nat.dvd_mul_right _ _⟩
    · obtain ⟨t, ht, rfl⟩ := List.mem_map.mp hf
      exact ⟨k.low.pos, Nat.dvd_mul_left _ _⟩) (Nat.mul_pos h.low.pos k.low.pos) hM (fun f hf => by
    rcases List.mem_append.mp hf with hf | hf
    · obtain ⟨t, ht, rfl⟩ := List.mem_map.mp hf
      have := h.b t ht
      simp only [Int.mul_one]
      omega
    · obtain ⟨t, ht, rfl⟩ := List.mem_map.mp hf
      have := k.b t ht
      simp only [Int.mul_neg, Int.mul_one]
      omega) (by
    rw [List.length_append]
    unfold frT
    rw [List.length_map, List.length_map]
    have := h.low.t.len
    have := k.low.t.len
    omega) m
  refine ⟨vs, r, ?_, h2, fun b hb => by rw [h3 b hb, vF_app, vF_T 1 h.low.pos, vF_T (-1) k.low.pos]; simp; grind⟩
  rw [List.map_append, frT_dFr, frT_dFr] at h1
  simp only [Int.mul_one, Int.mul_neg] at h1
  have l1 := h.low.t.len
  have l2 := k.low.t.len
  have l3 : ts.length + us.length ≤ 16777216 := by omega
  unfold F_Form_sub
  simp [defF_out, b_Form_sub, sums_is, under_is, check_form_ok, aStar, l3, h1]
theorem mul_left_sml {i j : Int} (h : i.natAbs ≤ 1000000000000000000) : mulD (.int i) (.int j) = some (.int (i * j)) := by
  rw [q_mul, if_pos]
  left
  omega
theorem mul_fm {ts : List Tm} {p P B : Nat} (h : Fm ts p P B) (hB : B ≤ 1000000000000000000) (s : Int) (m : MS) :
    ∃ vs r, F_Form_mul [dF ts p, .int s] m = .ok (dF vs r) [] m ∧ Fm vs r p (122 * ((B * s.natAbs) * p)) ∧ ∀ b, b ≤ 60 → vl vs r b = vl ts p b * (s : Rat) := by
  obtain ⟨vs, r, h1, h2, h3⟩ := sum_fm (fr := frT s ts p) (M := p) (B := B * s.natAbs) (n := 122) (fun f hf => by
    obtain ⟨t, ht, rfl⟩ := List.mem_map.mp hf
    exact ⟨h.low.pos, Nat.dvd_refl _⟩) h.low.pos h.low.le (fun f hf => by
    obtain ⟨t, ht, rfl⟩ := List.mem_map.mp hf
    have := h.b t ht
    simp only [Int.natAbs_mul]
    exact Nat.mul_le_mul this (Nat.le_refl _)) (by
    unfold frT
    rw [List.length_map]
    have := h.low.t.len
    omega) m
  refine ⟨vs, r, ?_, h2, fun b hb => by rw [h3 b hb, vF_T s h.low.pos]⟩
  rw [frT_dFr] at h1
  unfold F_Form_mul
  simp [defF_out, b_Form_mul, sums_is, under_is, is_int_ok, -q_mul]
  rw [lcR_on (p := fun _ => true) (g := fun t : Tm => D.tup [.int (t.2 : Nat), .int (t.1 * s), .int (p : Nat)]) (fun _ _ => rfl)]
  · simp [h1]
  · intro t ht _
    have := h.b t ht
    simp [mul_left_sml (i := t.1) (j := s) (by omega), sums_is, under_is, -q_mul]
theorem vl_neg (ts : List Tm) (p b : Nat) : vl (negT ts) p b = -vl ts p b := by
  have e : coT (negT ts) b = -coT ts b := by
    induction ts with
    | nil => rfl
    | cons t ts ih =>
      rw [show negT (t :: ts) = (-t.1, t.2) :: negT ts from rfl, coT_cons, coT_cons, ih]
      simp only
      split <;> omega
  unfold vl
  rw [e, Rat.neg_divInt]
theorem Fm.neg {ts : List Tm} {p P B : Nat} (h : Fm ts p P B) : Fm (negT ts) p P B := ⟨h.low.neg, h.le, fun t ht => by
  obtain ⟨u, hu, rfl⟩ := List.mem_map.mp ht
  have := h.b u hu
  show (-u.1).natAbs ≤ B
  omega⟩
theorem eq_fm (ts us : List Tm) (p q : Nat) (m : MS) : F_Form_eq [dF ts p, dF us q] m = .ok (.bl (decide (ts = us) && decide (p = q))) [] m := by
  unfold F_Form_eq
  have h1 : isCG "Form" (clsB "Form") [dF us q, .glo "Form"] = some (.bl true) := by rfl
  have h2 := cod_Ts.op (by decide) ts us
  simp [defF_out, b_Form_eq, h1, sums_is, under_is, h2]
  by_cases z : ts = us
  · simp [z]
    omega
  · simp [z]
end Sp
end
section
set_option Elab.async false
set_option linter.all false
set_option autoImplicit false
set_option maxRecDepth 100000
namespace Sp
open PySem PySem.Spec PyProof.Rows L2 Qd
/-! the laws' own helpers about forms -/
/-- Euclid's steps -/
inductive Eu : Nat → Nat → Nat → Prop
  | nil (x : Nat) : Eu 0 x 0
  | cons {k x y : Nat} (h : y ≠ 0) (r : Eu k y (x % y)) : Eu (k + 1) x y
theorem eu_bound : ∀ (n x y : Nat), y < 2 ^ n → ∃ k, k ≤ 2 * n ∧ Eu k x y
  | 0, x, y, h => by
    have : y = 0 := by simpa using h
    subst this
    exact ⟨0, Nat.le_refl _, .nil x⟩
  | n + 1, x, y, h => by
    by_cases hy : y = 0
    · subst hy
      exact ⟨0, by omega, .nil x⟩
    · have h1 : x % y < y := Nat.mod_lt _ (by omega)
      by_cases hr : x % y = 0
      · exact ⟨1, by omega, .cons hy (hr ▸ .nil y)⟩
      · have h2 : y % (x % y) < x % y := Nat.mod_lt _ (by omega)
        have h3 : y % (x % y) < 2 ^ n := by
          have h4 : y % (x % y) + (x % y) ≤ y := by
            have h5 := Nat.div_add_mod y (x % y)
            have h6 : 1 ≤ y / (x % y) := (Nat.le_div_iff_mul_le (by omega)).mpr (by omega)
            have h7 : (x % y) * 1 ≤ (x % y) * (y / (x % y)) := Nat.mul_le_mul (Nat.le_refl _) h6
            omega
          rw [Nat.pow_succ] at h
          omega
        obtain ⟨k, h5, h6⟩ := eu_bound n (x % y) (y % (x % y)) h3
        exact ⟨k + 2, by omega, .cons hy (.cons hr h6)⟩
theorem eu_run {cl : List Nat} {t : FG} {body : FS} {c : Nat → D} {m : MS} {E : Nat → Nat → Option Sl → Qd.Env} (hz : ∀ a x s, ∃ s', turn t cl body (c a) (E x 0 s) m = .bk (E x 0 s') m)
    (hs : ∀ a x y s, y ≠ 0 → ∃ s', turn t cl body (c a) (E x y s) m = .nx (E y (x % y) s') m) : ∀ (k x y : Nat), Eu k x y → ∀ (l : List Nat) (s : Option Sl), k < l.length → ∃ s', runFor t cl body (l.map c) (E x y s) m = .nx (E (Nat.gcd x y) 0 s') m
  | _, _, _, .nil x, [], s, h => by simp at h
  | _, _, _, .nil x, a :: l, s, h => by
    obtain ⟨s', h1⟩ := hz a x s
    refine ⟨s', ?_⟩
    rw [List.map_cons, runFor_cons, h1, Nat.gcd_zero_right]
  | _, _, _, .cons (k := k) (x := x) (y := y) hy r, [], s, h => by simp at h
  | _, _, _, .cons (k := k) (x := x) (y := y) hy r, a :: l, s, h => by
    obtain ⟨s', h1⟩ := hs a x y s hy
    obtain ⟨s2, h2⟩ := eu_run hz hs k y (x % y) r l s' (by simpa using h)
    refine ⟨s2, ?_⟩
    rw [List.map_cons, runFor_cons, h1]
    simp only
    rw [h2]
    congr 2
    rw [Nat.gcd_comm x y, Nat.gcd_rec y x, Nat.gcd_comm]
theorem rangeD_10000 : rangeD 0 10000 = (List.range 10000).map fun i => D.int (i : Nat) := rangeD_map 10000
theorem law_gcd_ok {a b : Int} (hb : b.natAbs < 2 ^ 1000) (m : MS) : F_law_gcd [.int a, .int b] m = .ok (.int (Int.gcd a b : Nat)) [] m := by
  obtain ⟨k, hk, r⟩ := eu_bound 1000 a.natAbs b.natAbs hb
  have hm : ∀ x y : Nat, y ≠ 0 → modD (.int (x : Nat)) (.int (y : Nat)) = some (.int ((x % y : Nat) : Int)) := fun x y hy => by
    rw [q_mod, if_pos (by omega)]
    simp
  unfold F_law_gcd
  simp [defF_out, b_law_gcd, abs_nat, rangeD_10000, -q_abs, -q_mod]
  obtain ⟨s', hr⟩ := eu_run (t := gN 2) (cl := [2]) (body := sSeq (sIf (tOf (x2 (xVar 1) (xC (.int 0)) (pur2 opEq))) (sBrk) (sNx)) (sPar 0 1 (vVal (xVar 1)) (vVal (x2 (xVar 0) (xVar 1) (pur2 modD))))) (c := fun i : Nat => D.int (i : Nat)) (m := m)
    (E := fun x y s => [some (.fz (.int (x : Nat))), some (.fz (.int (y : Nat))), s]) (fun a x s => ⟨some (.fz (.int (a : Nat))), by simp [-q_mod, sBrk]⟩) (fun a x y s hy => ⟨none, by
      have h2 : ¬ (y : Int) = 0 := by omega
      simp [hm x y hy, hy, -q_mod]⟩) k _ _ r (List.range 10000) none (by rw [List.length_range]; omega)
  have e : Int.gcd a b = Nat.gcd a.natAbs b.natAbs := rfl
  rw [hr, e]
  simp
theorem shr_le {ts : List Tm} {p : Nat} (h : 0 < p) : shr ts p ≤ p := Nat.le_of_dvd h (shr_dvd ts p).1
theorem law_low_ok {ts : List Tm} {p : Nat} (hp : 0 < p) (hs : p ≤ 1000000) (hb : ∀ t ∈ ts, t.1.natAbs < 2 ^ 1000) (m : MS) : F_law_lowest [dTs ts, .int (p : Nat)] m = .ok (.tup [dTs (lowT ts p), .int (lowP ts p : Nat)]) [] m := by
  have hg := shr_pos (ts := ts) hp
  have hgs : Sml (shr ts p) := sml_12 (by have := shr_le (ts := ts) hp; omega)
  have hd := fun a : Int => fdiv_sml (a := a) hg hgs
  unfold F_law_lowest
  simp [defF_out, b_law_lowest]
  have key : ∀ (r : List Tm) (g : Nat) (x y : Option Sl), (∀ t ∈ r, t.1.natAbs < 2 ^ 1000) → (x = none ∨ ∃ d, x = some (.fz d)) → (y = none ∨ ∃ d, y = some (.fz d)) → ∃ x' y', (x' = none ∨ ∃ d, x' = some (.fz d)) ∧ (y' = none ∨ ∃ d, y' = some (.fz d)) ∧ runFor (gT 2 (gsCons (gN 3) (gsCons (gN 4) gsNil))) [] (sSet 2 (xCall F_law_gcd (aCons (xVar 2) (aCons (xVar 3) aNil)))) (r.map dT) [some (.fz (dTs ts)), some (.fz (.int (p : Nat))), some (.fz (.int (g : Nat))), x, y] m =
      .nx [some (.fz (dTs ts)), some (.fz (.int (p : Nat))), some (.fz (.int (shr r g : Nat))), x', y'] m := by
    intro r
    induction r with
    | nil => intro g x y _ hx hy; exact ⟨x, y, hx, hy, rfl⟩
    | cons t r ih =>
      intro g x y h hx hy
      obtain ⟨x', y', hx', hy', e⟩ := ih (Int.gcd (g : Int) t.1) (some (.fz (.int t.1))) (some (.fz (.int (t.2 : Nat)))) (fun u hu => h u (List.mem_cons_of_mem _ hu)) (.inr ⟨_, rfl⟩) (.inr ⟨_, rfl⟩)
      refine ⟨x', y', hx', hy', ?_⟩
      have hG := law_gcd_ok (a := (g : Int)) (h t List.mem_cons_self) m
      have et : turn (gT 2 (gsCons (gN 3) (gsCons (gN 4) gsNil))) [] (sSet 2 (xCall F_law_gcd (aCons (xVar 2) (aCons (xVar 3) aNil)))) (dT t) [some (.fz (dTs ts)), some (.fz (.int (p : Nat))), some (.fz (.int (g : Nat))), x, y] m = .nx [some (.fz (dTs ts)), some (.fz (.int (p : Nat))), some (.fz (.int (Int.gcd (g : Int) t.1 : Nat))), some (.fz (.int t.1)), some (.fz (.int (t.2 : Nat)))] m := by
        generalize Int.gcd (g : Int) t.1 = gg at hG
        simp [hG]
      rw [List.map_cons, runFor_cons, et]
      exact e
  obtain ⟨x, y, hx, hy, e⟩ := key ts p none none hb (.inl rfl) (.inl rfl)
  rw [e]
  generalize hq : shr ts p = g at *
  rcases hx with rfl | ⟨d, rfl⟩ <;> rcases hy with rfl | ⟨d', rfl⟩ <;> simp [hd, lowT, lowP, Function.comp_def, -q_fdiv, hq]
/-! ### drawn terms -/
theorem pow_109 : powD (.int 10) (.int 9) = some (.int 1000000000) := by
  unfold powD
  exact if_pos (by decide)
structure Dr (ts : List Tm) (n : Nat) : Prop where
  t : Tms ts
  b : ∀ t ∈ ts, t.1.natAbs ≤ 1000000000
  n : ts.length ≤ n
theorem pick3 (a b c : D) {k : Nat} (hk : k < 3) : ∃ d, L2.atI [a, b, c] (k : Int) = some d ∧ d ∈ [a, b, c] := by
  rw [Qd.atI_nat]
  have h : k < [a, b, c].length := hk
  exact ⟨_, List.getElem?_eq_getElem h, List.getElem_mem h⟩
theorem terms_drawn {j : Nat} {m : MS} (h : Pur j m) {n : Nat} (hn : n ≤ 60) : ∃ ts p m', F_law_terms [.obj j, .int (n : Nat)] m = .ok (.tup [dTs ts, .int (p : Nat)]) [] m' ∧ Dr ts n ∧ 0 < p ∧ p ≤ 60 ∧ Go j m m' := by
  suffices Ends (fun d m' => ∃ ts p, d = .tup [dTs ts, .int (p : Nat)] ∧ Dr ts n ∧ 0 < p ∧ p ≤ 60 ∧ Go j m m') (F_law_terms [.obj j, .int (n : Nat)] m) by
    obtain ⟨_, m', e, ts, p, rfl, h⟩ := this
    exact ⟨ts, p, m', e, h⟩
  obtain ⟨k, m1, q1, q2, q3⟩ := draw_ok (n := (n : Int) + 1) h (by omega) (by omega)
  have hk : -4611686018427387904 ≤ (k : Int) ∧ (k : Int) ≤ 16777216 := by omega
  unfold F_law_terms
  simp [defF_out, b_law_terms, q1, hk, pow_109]
  refine for_state (k := fun u => Ends _ (U.sq u).out) (fun i e m2 => ∃ (ts : List Tm) (b : Int), e = [some (.fz (.obj j)), some (.fz (.int (n : Nat))), none, some (.ol (ts.map dT)), some (.fz (.int b)), none] ∧ -1 ≤ b ∧ b ≤ 61 ∧ Tms ts ∧ (∀ t ∈ ts, t.1.natAbs ≤ 1000000000 ∧ b ≤ t.2) ∧ ts.length ≤ i ∧ Go j m m2) ⟨[], 61, rfl, by decide, by decide, ⟨by simp, by simp, by simp⟩, by simp, by simp, q3⟩ ?_ ?_
  · rintro i x e m2 hi ⟨ts, b, rfl, h1, h2, h3, h4, h5, h6⟩
    have hi : i < k := by
      have := (List.getElem?_eq_some_iff.mp hi).1
      simpa using this
    have hl : ts.length < 16777216 := by omega
    obtain ⟨b', m3, d1, d2, d3, d4, d5⟩ : ∃ (b' : Int) (m3 : MS), xIf (tOf (x2 (xVar 4) (xC (.int 0)) (pur2 opGt))) (xCall F_law_draw (aCons (xVar 0) (aCons (xVar 4) aNil))) (x1 (xC (.int 1)) (pur1 negD)) [some (.fz (.obj j)), some (.fz (.int (n : Nat))), some (.fz (.int (x : Nat))), some (.ol (ts.map dT)), some (.fz (.int b)), none] m2 =
        .ok (.int b') [some (.fz (.obj j)), some (.fz (.int (n : Nat))), some (.fz (.int (x : Nat))), some (.ol (ts.map dT)), some (.fz (.int b)), none] m3 ∧ -1 ≤ b' ∧ b' ≤ 60 ∧ (0 ≤ b' → b' < b) ∧ Go j m m3 := by
      by_cases hb : 0 < b
      · obtain ⟨c, m3, r1, r2, r3⟩ := draw_ok (n := b) h6.p (by omega) (by omega)
        exact ⟨(c : Nat), m3, by simp [hb, r1], by omega, by omega, fun _ => r2, h6.trans r3⟩
      · exact ⟨-1, m2, by simp [hb], by decide, by decide, fun z => by omega, h6⟩
    obtain ⟨a, m4, r1, r2, r3⟩ := draw_ok (n := 3) d5.p (by decide) (by decide)
    obtain ⟨d, s1, s2⟩ := pick3 (.int 3) (.int 12) (.int 1000000000) (k := a) (by omega)
    obtain ⟨N, hN, n1, n2⟩ : ∃ N : Int, d = .int N ∧ 1 ≤ N ∧ N ≤ 1000000000 := by
      simp at s2
      rcases s2 with rfl | rfl | rfl
      · exact ⟨_, rfl, by decide, by decide⟩
      · exact ⟨_, rfl, by decide, by decide⟩
      · exact ⟨_, rfl, by decide, by decide⟩
    subst hN
    obtain ⟨z, m5, t1, t2, t3⟩ := draw_ok (n := N) r3.p (by omega) (by omega)
    by_cases hb : 0 ≤ b'
    · obtain ⟨g, m6, v1, v2, v3⟩ := draw_ok (n := 2) t3.p (by decide) (by decide)
      let c : Int := if g = 0 then 1 + (z : Int) else -(1 + (z : Int))
      have hc : c ≠ 0 ∧ c.natAbs ≤ 1000000000 := by
        simp only [c]
        split <;> omega
      refine ⟨_, m6, ?_, ts ++ [(c, b'.toNat)], b', rfl, d2, by omega, ⟨?_, ?_, ?_⟩, ?_, by simp; omega, ((d5.trans r3).trans t3).trans v3⟩
      · simp only [q_turn, q_gN, s_seq, s_set, List.set]
        rw [d1]
        simp [r1, s1, t1, hb, v1, hl, c, pow_109]
        by_cases hg : g = 0
        · simp [hg, hl]
          omega
        · simp [hg, hl]
          omega
      · intro t ht
        rcases List.mem_append.mp ht with ht | ht
        · exact h3.nz t ht
        · simp at ht
          subst ht
          exact hc.1
      · intro t ht
        rcases List.mem_append.mp ht with ht | ht
        · exact h3.le t ht
        · simp at ht
          subst ht
          show b'.toNat ≤ 60
          omega
      · rw [List.pairwise_append]
        refine ⟨h3.dec, by simp, fun t ht u hu => ?_⟩
        simp at hu
        subst hu
        have := (h4 t ht).2
        have := d4 hb
        show b'.toNat < t.2
        omega
      · intro t ht
        rcases List.mem_append.mp ht with ht | ht
        · have := d4 hb
          have := h4 t ht
          omega
        · simp at ht
          subst ht
          refine ⟨hc.2, ?_⟩
          show b' ≤ (b'.toNat : Nat)
          omega
    · refine ⟨_, m5, ?_, ts, b', rfl, d2, by omega, h3, ?_, by omega, (d5.trans r3).trans t3⟩
      · simp only [q_turn, q_gN, s_seq, s_set, List.set]
        rw [d1]
        simp [r1, s1, t1, hb, pow_109]
      · intro t ht
        have := h4 t ht
        omega
  · rintro e m2 ⟨ts, b, rfl, h1, h2, h3, h4, h5, h6⟩
    obtain ⟨a, m4, r1, r2, r3⟩ := draw_ok (n := 3) h6.p (by decide) (by decide)
    obtain ⟨d, s1, s2⟩ := pick3 (.int 1) (.int 6) (.int 60) (k := a) (by omega)
    obtain ⟨N, hN, n1, n2⟩ : ∃ N : Int, d = .int N ∧ 1 ≤ N ∧ N ≤ 60 := by
      simp at s2
      rcases s2 with rfl | rfl | rfl
      · exact ⟨_, rfl, by decide, by decide⟩
      · exact ⟨_, rfl, by decide, by decide⟩
      · exact ⟨_, rfl, by decide, by decide⟩
    subst hN
    obtain ⟨z, m5, t1, t2, t3⟩ := draw_ok (n := N) r3.p (by omega) (by omega)
    rw [List.length_range] at h5
    simp [r1, s1, t1]
    exact ⟨ts, 1 + z, by simp, ⟨h3, fun t ht => (h4 t ht).1, by omega⟩, by omega, by omega, (h6.trans r3).trans t3⟩
end Sp
end
section
set_option Elab.async false
set_option linter.all false
set_option autoImplicit false
set_option maxRecDepth 100000
namespace Sp
open PySem PySem.Spec PyProof.Rows L2 Qd
/-! the law's own turns -/
theorem cod_Tn : Cod dTn 2 := (cod_tup cod_int).via (fun t : Nat × Int => [(t.1 : Int), t.2]) fun a b h => by
  injection h with h1 h2
  injection h2 with h2 h3
  exact Prod.ext (by omega) h2
theorem first_of {p : Nat → Bool} : ∀ (n : Nat), p n = true → ∃ N, N ≤ n ∧ p N = true ∧ ∀ k, k < N → p k = false
  | 0, h => ⟨0, Nat.le_refl _, h, fun k hk => by omega⟩
  | n + 1, h => by
    by_cases z : ∃ k, k ≤ n ∧ p k = true
    · obtain ⟨k, hk, hp⟩ := z
      have : ∀ j, j ≤ n → p j = true → ∃ N, N ≤ n ∧ p N = true ∧ ∀ i, i < N → p i = false := by
        intro j
        induction j using Nat.strongRecOn with
        | _ j ih =>
          intro hj hpj
          by_cases y : ∃ i, i < j ∧ p i = true
          · obtain ⟨i, hi, hpi⟩ := y
            exact ih i hi (by omega) hpi
          · exact ⟨j, hj, hpj, fun i hi => by
              cases q : p i with
              | false => rfl
              | true => exact absurd ⟨i, hi, q⟩ y⟩
      obtain ⟨N, h1, h2, h3⟩ := this k hk hp
      exact ⟨N, by omega, h2, h3⟩
    · exact ⟨n + 1, Nat.le_refl _, h, fun k hk => by
        cases q : p k with
        | false => rfl
        | true => exact absurd ⟨k, by omega, q⟩ z⟩
noncomputable abbrev lt_b : FS := sSeq (sSet 4 (xCall F_law_sign_of (aCons (xA (aCons (xVar 2) (aNil)) (purA sumG)) (aNil)))) (sSeq (sIf (tOr (tOf (xEqN false 3 (xA (aNil) (purA mkLst)))) (tOf (x2 (x2 (xIxN 3 (x1 (xC (.int 1)) (pur1 negD))) (xC (.int 1)) ixG) (xVar 4) (pur2 opNe)))) (sDrop (onL 3 (aCons (xA (aCons (xVar 1) (aCons (xVar 4) (aNil))) (purA mkTup)) (aNil)) (apG 3))) (sNx)) (sSeq (sIf (tAn (tOf (x2 (xVar 1) (xC (.int 0)) (pur2 opGt))) (tOf (xCall F_law_rules (aCons (xVar 2) (aCons (xVar 0) (aNil)))))) (sBrk) (sNx)) (sSet 2 (xLcP (wZipM (aCons (xVar 2) (aCons (xVar 0) (aNil)))) (gT 2 (gsCons (gN 5) (gsCons (gN 7) (gsNil)))) [5, 7] (tAll) (x2 (xVar 5) (x2 (xVar 7) (xC (.int 1)) ixG) (pur2 mulD))))))
/-- what is found ahead of turn n -/
def tfd (s : Nat → Int) : Nat → List (Nat × Int)
  | 0 => []
  | n + 1 => trn s n
def ltE (ts : List Tm) (n : Nat) : Qd.Env := [some (.fz (dTs ts)), some (.fz (.int ((n - 1 : Nat) : Int))), some (.fz (.lst ((szs ts n).map .int))), some (.ol ((tfd (sg ts) n).map dTn)), none, none, none, none]
theorem lt_found {ts : List Tm} {n : Nat} {d0 d1 d2 d5 d6 d7 : Option Sl} (hn : n ≤ 10000) (m : MS) :
    sIf (tOr (tOf (xEqN false 3 (xA (aNil) (purA mkLst)))) (tOf (x2 (x2 (xIxN 3 (x1 (xC (.int 1)) (pur1 negD))) (xC (.int 1)) ixG) (xVar 4) (pur2 opNe)))) (sDrop (onL 3 (aCons (xA (aCons (xVar 1) (aCons (xVar 4) (aNil))) (purA mkTup)) (aNil)) (apG 3))) (sNx)
      [d0, some (.fz (.int (n : Nat))), d2, some (.ol ((tfd (sg ts) n).map dTn)), some (.fz (.int (sg ts n))), d5, d6, d7] m = .nx [d0, some (.fz (.int (n : Nat))), d2, some (.ol ((trn (sg ts) n).map dTn)), some (.fz (.int (sg ts n))), d5, d6, d7] m := by
  have e0 : ∀ l : List (Nat × Int), eqD (.lst (l.map dTn)) (.lst []) = some (decide (l = [])) := fun l => (cod_lst cod_Tn).eqD (by decide) l []
  cases n with
  | zero =>
    have := e0 []
    rw [List.map_nil] at this
    simp [tfd, trn, this]
  | succ k =>
    obtain ⟨j, hj⟩ := last_at (sg ts) k
    have hl := trn_len (sg ts) k
    have hne := trn_ne (sg ts) k
    have e1 := e0 (trn (sg ts) k)
    have hlt : (trn (sg ts) k).length < 16777216 := by omega
    have ec : ((k : Int) + 1) = ((k + 1 : Nat) : Int) := by omega
    have tr : trn (sg ts) (k + 1) = if sg ts (k + 1) = sg ts k then trn (sg ts) k else trn (sg ts) k ++ [(k + 1, sg ts (k + 1))] := rfl
    rw [tr, show tfd (sg ts) (k + 1) = trn (sg ts) k from rfl]
    obtain ⟨q, hq⟩ : ∃ q, q = k + 1 := ⟨_, rfl⟩
    rw [← hq]
    generalize trn (sg ts) k = T at *
    by_cases r : sg ts q = sg ts k
    · simp [e1, hne, hj, r]
    · have r2 : ¬ sg ts k = sg ts q := fun e => r e.symm
      simp [e1, hne, hj, r, r2, hlt]
theorem lt_step {ts : List Tm} (h : Tms ts) {n : Nat} (hn : n ≤ 10000) (hr : n = 0 ∨ rld ts n = false) (m : MS) : turn (gN 1) [4, 7] lt_b (.int (n : Nat)) (ltE ts n) m = .nx (ltE ts (n + 1)) m := by
  have hs : sgn ((szs ts n).sum) = sg ts n := rfl
  have hm : ∀ t ∈ ts, mulD (.int (pw t n)) (.int (t.2 : Nat)) = some (.int (pw t n * (t.2 : Nat))) := fun t ht => mul_sml _ (by have := h.le t ht; omega)
  have nx := next_sz (ts := ts) (n := n)
  have hz := zip_szs ts n
  have lf := fun d2 => lt_found (ts := ts) (n := n) (d0 := some (.fz (dTs ts))) (d1 := none) (d2 := d2) (d5 := none) (d6 := none) (d7 := none) hn m
  have hsum : sumG [.lst ((szs ts n).map D.int)] = some (.int ((szs ts n).sum)) := q_sumI
  have hru : 0 < n → F_law_rules [.lst ((szs ts n).map D.int), dTs ts] m = .ok (.bl false) [] m := fun hp => by
    rw [lrules_ok ts n hp]
    rcases hr with z | z
    · omega
    · rw [z]
  unfold ltE
  show _ = Qd.U.nx [_, _, _, some (.ol ((trn (sg ts) n).map dTn)), _, _, _, _] m
  rw [show n + 1 - 1 = n by omega]
  generalize (szs ts n).map D.int = Z at *
  generalize (trn (sg ts) n).map dTn = T at *
  generalize (tfd (sg ts) n).map dTn = T0 at *
  simp [hsum, lsign_ok, hs, -s_if]
  rw [lf]
  simp [-q_mul]
  by_cases hp : 0 < n
  · simp [hp, hru hp, hz, -q_mul]
    rw [lcR_on (p := fun _ => true) (g := fun t : Tm => .int (pw t n * (t.2 : Nat))) (fun _ _ => rfl)]
    · rw [filter_tt, nx]
      simp
    · intro t ht _
      simp [hm t ht, -q_mul]
  · simp [hp, hz, -q_mul]
    rw [lcR_on (p := fun _ => true) (g := fun t : Tm => .int (pw t n * (t.2 : Nat))) (fun _ _ => rfl)]
    · rw [filter_tt, nx]
      simp
    · intro t ht _
      simp [hm t ht, -q_mul]
theorem lt_end {ts : List Tm} {n : Nat} (hn : n ≤ 10000) (hp : 0 < n) (hr : rld ts n = true) (m : MS) : turn (gN 1) [4, 7] lt_b (.int (n : Nat)) (ltE ts n) m =
    .bk [some (.fz (dTs ts)), some (.fz (.int (n : Nat))), some (.fz (.lst ((szs ts n).map .int))), some (.ol ((trn (sg ts) n).map dTn)), some (.fz (.int (sg ts n))), none, none, none] m := by
  have hs : sgn ((szs ts n).sum) = sg ts n := rfl
  have lf := fun d2 => lt_found (ts := ts) (n := n) (d0 := some (.fz (dTs ts))) (d1 := none) (d2 := d2) (d5 := none) (d6 := none) (d7 := none) hn m
  have hsum : sumG [.lst ((szs ts n).map D.int)] = some (.int ((szs ts n).sum)) := q_sumI
  have hru : F_law_rules [.lst ((szs ts n).map D.int), dTs ts] m = .ok (.bl true) [] m := by rw [lrules_ok ts n hp, hr]
  unfold ltE
  generalize (szs ts n).map D.int = Z at *
  generalize (trn (sg ts) n).map dTn = T at *
  generalize (tfd (sg ts) n).map dTn = T0 at *
  simp [hsum, lsign_ok, hs, -s_if]
  rw [lf]
  simp [hp, hru, sBrk]
theorem rangeD_4000 : rangeD 0 4000 = (List.range 4000).map fun i => D.int (i : Nat) := rangeD_map 4000
theorem lturns_ok {ts : List Tm} (h : Tms ts) {N : Nat} (h0 : 0 < N) (hN : N < 4000) (h1 : rld ts N = true) (h2 : ∀ n, 0 < n → n < N → rld ts n = false) (m : MS) : F_law_turns [dTs ts] m = .ok (.tup [.tup ((trn (sg ts) N).map dTn), .int (N : Nat)]) [] m := by
  have e0 : (szs ts 0).map D.int = ts.map fun t => D.int t.1 := by
    unfold szs
    rw [List.map_map]
    apply List.map_congr_left
    intro t _
    simp [pw]
  have e1 : ltE ts 0 = [some (.fz (dTs ts)), some (.fz (.int 0)), some (.fz (.lst (ts.map fun t => D.int t.1))), some (.ol []), none, none, none, none] := by
    unfold ltE
    rw [e0]
    rfl
  have hr := runFor_brk (t := gN 1) (cl := [4, 7]) (body := lt_b) (c := fun i : Nat => D.int (i : Nat)) (m := m) (List.range 4000) (ltE ts) 0 N N (List.getElem?_range hN) (fun j x hj hx => by
    have : x = j := by
      rw [List.getElem?_range (by omega)] at hx
      exact (Option.some.inj hx).symm
    subst this
    rw [Nat.zero_add]
    refine lt_step h (by omega) ?_ m
    by_cases z : x = 0
    · exact .inl z
    · exact .inr (h2 x (by omega) hj)) (by rw [Nat.zero_add]; exact lt_end (by omega) h0 h1 m)
  have er : ∀ (E : Qd.Env), rng1G [.int 4000] E m = .ok ((List.range 4000).map fun i : Nat => D.int (i : Nat)) E m := fun E => by
    rw [q_rng1, if_pos (by decide), rangeD_4000]
  generalize hR : List.range 4000 = R4 at *
  unfold F_law_turns
  simp [defF_out, b_law_turns, sPar3, er, -q_rng1]
  rw [← e1, hr]
  simp
/-! ### powers, sums -/
theorem pow_turn {ml : D → D → Option D} {x z : Int} {d b v : D} {m : MS} (h : ml (.int x) b = some (.int z)) : turn (gN 3) [3] (sSet 2 (x2 (xVar 2) (xVar 0) (pur2 ml))) v [some (.fz b), some (.fz d), some (.fz (.int x)), none] m = .nx [some (.fz b), some (.fz d), some (.fz (.int z)), none] m := by
  simp [h]
theorem pow_ok {b n : Nat} (hb : b ≤ 60) (hn : n ≤ 10000) (m : MS) : F_law_power [.int (b : Nat), .int (n : Nat)] m = .ok (.int ((b : Int) ^ n)) [] m := by
  unfold F_law_power
  have hz : -4611686018427387904 ≤ (n : Int) ∧ (n : Int) ≤ 16777216 := by omega
  have hm : ∀ x : Int, mulD (.int x) (.int (b : Nat)) = some (.int (x * (b : Nat))) := fun x => mul_sml x (by omega)
  simp [defF_out, b_law_power, hz, rangeD_map]
  refine for_state (k := fun u => (U.sq u).out = _) (fun i e m1 => e = [some (.fz (.int (b : Nat))), some (.fz (.int (n : Nat))), some (.fz (.int ((b : Int) ^ i))), none] ∧ m1 = m) ⟨by simp, rfl⟩ ?_ ?_
  · rintro i x e m1 hx ⟨rfl, rfl⟩
    rw [Int.pow_succ]
    exact ⟨_, _, pow_turn (hm _), rfl, rfl⟩
  · rintro e m1 ⟨rfl, rfl⟩
    rw [List.length_range]
    simp
theorem lsum_ok {ts : List Tm} {n : Nat} (h : Tms ts) (hb : ∀ t ∈ ts, t.1.natAbs ≤ 1000000000000) (hn : n ≤ 10000) (m : MS) : F_law_sum [dTs ts, .int (n : Nat)] m = .ok (.int (smT ts n)) [] m := by
  unfold F_law_sum
  simp [defF_out, b_law_sum]
  rw [lcR_on (p := fun _ => true) (g := fun t : Tm => .int (pw t n)) (fun _ _ => rfl)]
  · rw [filter_tt]
    have := q_sumF (l := ts) (f := fun t => pw t n)
    simp [this]
    rfl
  · intro t ht _
    have h1 := pow_ok (b := t.2) (n := n) (by have := h.le t ht; omega) hn m
    have h2 : mulD (.int t.1) (.int ((t.2 : Int) ^ n)) = some (.int (pw t n)) := mul_left_sml (by have := hb t ht; omega)
    generalize (t.2 : Int) ^ n = y at *
    simp [h1, h2, -q_mul]
end Sp
end
section
set_option Elab.async false
set_option linter.all false
set_option autoImplicit false
set_option maxRecDepth 100000
namespace Sp
open PySem PySem.Spec PyProof.Rows L2 Qd
/-! terms and parts mixed by a law's own sums -/
abbrev Mx := List Tm × Nat × Int
abbrev dM (x : Mx) : D := .tup [dTs x.1, .int (x.2.1 : Nat), .int x.2.2]
def prM (l : List Mx) : Nat := l.foldl (fun w x => w * x.2.1) 1
def frM (b : Nat) (x : Mx) : Fr := (b, coT x.1 b * x.2.2, x.2.1)
def szM (l : List Mx) (b : Nat) : Int := (l.map fun x => qoF (prM l) (frM b x)).sum
structure Mxs (l : List Mx) : Prop where
  t : ∀ x ∈ l, Tms x.1
  p : ∀ x ∈ l, 0 < x.2.1 ∧ x.2.1 ≤ 1000000
  b : ∀ x ∈ l, ∀ t ∈ x.1, t.1.natAbs ≤ 1000000000000
  w : prM l ≤ 1000000
  f : ∀ x ∈ l, x.2.2.natAbs ≤ 1000000000000000000000
  n : l.length ≤ 10
theorem prM_pos : ∀ (l : List Mx) (w : Nat), (∀ x ∈ l, 0 < x.2.1) → 0 < w → 0 < l.foldl (fun w x => w * x.2.1) w ∧ w ∣ l.foldl (fun w x => w * x.2.1) w ∧ ∀ x ∈ l, x.2.1 ∣ l.foldl (fun w x => w * x.2.1) w
  | [], w, _, hw => ⟨hw, Nat.dvd_refl _, by simp⟩
  | x :: l, w, h, hw => by
    obtain ⟨h1, h2, h3⟩ := prM_pos l (w * x.2.1) (fun y hy => h y (List.mem_cons_of_mem _ hy)) (Nat.mul_pos hw (h x List.mem_cons_self))
    rw [List.foldl_cons]
    refine ⟨h1, Nat.dvd_trans (Nat.dvd_mul_right _ _) h2, fun y hy => ?_⟩
    rcases List.mem_cons.mp hy with rfl | hy
    · exact Nat.dvd_trans (Nat.dvd_mul_left _ _) h2
    · exact h3 y hy
theorem coT_le {ts : List Tm} (h : Tms ts) {B : Nat} (hb : ∀ t ∈ ts, t.1.natAbs ≤ B) (b : Nat) : (coT ts b).natAbs ≤ B := by
  by_cases z : ∃ t ∈ ts, t.2 = b
  · obtain ⟨t, ht, rfl⟩ := z
    rw [coT_at h.dec ht]
    exact hb t ht
  · rw [coT_not fun t ht e => z ⟨t, ht, e⟩]
    exact Nat.zero_le _
theorem mul_right_sml {i j : Int} (h : j.natAbs ≤ 1000000000000000000) : mulD (.int i) (.int j) = some (.int (i * j)) := by
  rw [q_mul, if_pos]
  right
  omega
noncomputable abbrev mx_t : FG := gT 3 (gsCons (gN 4) (gsCons (gN 5) (gsCons (gN 6) (gsNil))))
noncomputable abbrev mx_b1 (ml : D → D → Option D) : FS := sSet 2 (x2 (xVar 2) (xVar 5) (pur2 ml))
noncomputable abbrev mx_b3 (ml fd ml2 : D → D → Option D) : FS := sSet 7 (x2 (xVar 7) (x2 (x2 (xVar 6) (x2 (xVar 2) (xVar 5) (pur2 fd)) (pur2 ml)) (xA (aCons (xLcP (wAny (xVar 4)) (gT 2 (gsCons (gN 8) (gsCons (gN 9) (gsNil)))) [8, 9] (tOf (x2 (xVar 9) (xVar 1) (pur2 opEq))) (xVar 8)) (aNil)) (purA sumG)) (pur2 ml2)) (pur2 addD))
noncomputable abbrev mx_b2 : FS := sSeq (sSet 7 (xC (.int 0))) (sSeq (sFor (wAny (xVar 0)) mx_t [8, 9] (mx_b3 mulD fdivD mulD)) (sIf (tOf (x2 (xVar 7) (xC (.int 0)) (pur2 opNe))) (sDrop (onL 3 (aCons (xA (aCons (xVar 7) (aCons (xVar 1) (aNil))) (purA mkTup)) (aNil)) (apG 3))) (sNx)))
theorem mx_turn1 {ml : D → D → Option D} {d : D} {x : Mx} {w w2 : Nat} {o1 o4 o5 o6 : Option Sl} {l : List D} {m : MS} (hm : ml (.int (w : Nat)) (.int (x.2.1 : Nat)) = some (.int (w2 : Nat))) :
    turn mx_t [] (mx_b1 ml) (dM x) [some (.fz d), o1, some (.fz (.int (w : Nat))), some (.ol l), o4, o5, o6, none, none, none] m = .nx [some (.fz d), o1, some (.fz (.int (w2 : Nat))), some (.ol l), some (.fz (dTs x.1)), some (.fz (.int (x.2.1 : Nat))), some (.fz (.int x.2.2)), none, none, none] m := by
  simp [hm]
theorem mx_turn3 {ml fd ml2 : D → D → Option D} {d : D} {x : Mx} {w q b : Nat} {s r u : Int} {o4 o5 o6 : Option Sl} {l : List D} {m : MS} (hd : fd (.int (w : Nat)) (.int (x.2.1 : Nat)) = some (.int (q : Nat))) (hm : ml (.int x.2.2) (.int (q : Nat)) = some (.int r)) (hm2 : ml2 (.int r) (.int (coT x.1 b)) = some (.int u)) :
    turn mx_t [8, 9] (mx_b3 ml fd ml2) (dM x) [some (.fz d), some (.fz (.int (b : Nat))), some (.fz (.int (w : Nat))), some (.ol l), o4, o5, o6, some (.fz (.int s)), none, none] m =
      .nx [some (.fz d), some (.fz (.int (b : Nat))), some (.fz (.int (w : Nat))), some (.ol l), some (.fz (dTs x.1)), some (.fz (.int (x.2.1 : Nat))), some (.fz (.int x.2.2)), some (.fz (.int (s + u))), none, none] m := by
  have es : sumG [.lst ((x.1.filter fun t => decide (t.2 = b)).map fun t => D.int t.1)] = some (.int (coT x.1 b)) := q_sumF
  have ef : (fun t : Tm => decide ((t.2 : Int) = (b : Int))) = fun t => decide (t.2 = b) := by
    funext t
    exact decide_eq_decide.mpr (by omega)
  simp [hd, hm, ef, es, hm2]
theorem mx_loop3 {l0 : List Mx} {W b : Nat} {d : D} {ls : List D} {m : MS} (hW : W ≤ 1000000) : ∀ (l : List Mx) (s : Int) (o4 o5 o6 : Option Sl), (∀ x ∈ l, Tms x.1) → (∀ x ∈ l, 0 < x.2.1 ∧ x.2.1 ≤ 1000000) → (∀ x ∈ l, ∀ t ∈ x.1, t.1.natAbs ≤ 1000000000000) →
    ∃ p4 p5 p6, runFor mx_t [8, 9] (mx_b3 mulD fdivD mulD) (l.map dM) [some (.fz d), some (.fz (.int (b : Nat))), some (.fz (.int (W : Nat))), some (.ol ls), o4, o5, o6, some (.fz (.int s)), none, none] m =
      .nx [some (.fz d), some (.fz (.int (b : Nat))), some (.fz (.int (W : Nat))), some (.ol ls), p4, p5, p6, some (.fz (.int (s + (l.map fun x => qoF W (frM b x)).sum))), none, none] m
  | [], s, o4, o5, o6, _, _, _ => ⟨o4, o5, o6, by simp [runFor]⟩
  | x :: l, s, o4, o5, o6, ht, hp, hb => by
    have h1 := hp x List.mem_cons_self
    have hd := fdiv_sml (a := (W : Int)) h1.1 (sml_12 (by omega : x.2.1 ≤ 1000000000000))
    have e1 : (W : Int) / (x.2.1 : Nat) = ((W / x.2.1 : Nat) : Int) := by simp
    rw [e1] at hd
    have hq : W / x.2.1 ≤ 1000000000000 := Nat.le_trans (Nat.div_le_self _ _) (by omega)
    have hm := mul_sml x.2.2 hq
    have hc := coT_le (ht x List.mem_cons_self) (hb x List.mem_cons_self) b
    have hm2 := mul_right_sml (i := x.2.2 * ((W / x.2.1 : Nat) : Int)) (j := coT x.1 b) (by omega)
    have et := mx_turn3 (d := d) (x := x) (w := W) (q := W / x.2.1) (b := b) (s := s) (o4 := o4) (o5 := o5) (o6 := o6) (l := ls) (m := m) hd hm hm2
    obtain ⟨p4, p5, p6, e⟩ := mx_loop3 (l0 := l0) (W := W) (b := b) (d := d) (ls := ls) (m := m) hW l (s + x.2.2 * ((W / x.2.1 : Nat) : Int) * coT x.1 b) (some (.fz (dTs x.1))) (some (.fz (.int (x.2.1 : Nat)))) (some (.fz (.int x.2.2))) (fun y hy => ht y (List.mem_cons_of_mem _ hy)) (fun y hy => hp y (List.mem_cons_of_mem _ hy)) (fun y hy => hb y (List.mem_cons_of_mem _ hy))
    refine ⟨p4, p5, p6, ?_⟩
    rw [List.map_cons, runFor_cons, et]
    simp only
    rw [e, List.map_cons, List.sum_cons]
    have eq : s + (qoF W (frM b x) + (l.map fun x => qoF W (frM b x)).sum) = s + x.2.2 * ((W / x.2.1 : Nat) : Int) * coT x.1 b + (l.map fun x => qoF W (frM b x)).sum := by
      have : qoF W (frM b x) = x.2.2 * ((W / x.2.1 : Nat) : Int) * coT x.1 b := by
        show coT x.1 b * x.2.2 * ((W / x.2.1 : Nat) : Int) = _
        generalize ((W / x.2.1 : Nat) : Int) = z
        grind
      rw [this]
      omega
    rw [eq]
theorem mx_turn2 {l : List Mx} {W b : Nat} {us : List Tm} {o1 o4 o5 o6 o7 : Option Sl} {m : MS} (hW : W ≤ 1000000) (ht : ∀ x ∈ l, Tms x.1) (hp : ∀ x ∈ l, 0 < x.2.1 ∧ x.2.1 ≤ 1000000) (hb : ∀ x ∈ l, ∀ t ∈ x.1, t.1.natAbs ≤ 1000000000000) (hl : us.length < 16777216) :
    ∃ p4 p5 p6, turn (gN 1) [1, 7] mx_b2 (.int (b : Nat)) [some (.fz (.lst (l.map dM))), o1, some (.fz (.int (W : Nat))), some (.ol (us.map dT)), o4, o5, o6, o7, none, none] m =
      .nx [some (.fz (.lst (l.map dM))), none, some (.fz (.int (W : Nat))), some (.ol ((us ++ if (l.map fun x => qoF W (frM b x)).sum = 0 then [] else [((l.map fun x => qoF W (frM b x)).sum, b)]).map dT)), p4, p5, p6, none, none, none] m := by
  obtain ⟨p4, p5, p6, e⟩ := mx_loop3 (l0 := l) (W := W) (b := b) (d := .lst (l.map dM)) (ls := us.map dT) (m := m) hW l 0 o4 o5 o6 ht hp hb
  refine ⟨p4, p5, p6, ?_⟩
  rw [Int.zero_add] at e
  generalize (l.map fun x => qoF W (frM b x)).sum = z at e
  simp only [q_turn, q_gN, List.set, s_seq, s_set, q_xC, R.thn_ok, U.sq_nx, s_for, w_any, q_xVar, List.getElem?_cons_zero, R.bind_ok, q_itL]
  rw [e]
  by_cases hz : z = 0
  · simp [hz]
  · simp [hz, hl]
theorem law_mixed_ok {l : List Mx} (h : Mxs l) (m : MS) : F_law_mixed [.lst (l.map dM)] m = .ok (.tup [dTs (lowT (canon (szM l)) (prM l)), .int (lowP (canon (szM l)) (prM l) : Nat)]) [] m := by
  have hp : ∀ x ∈ l, 0 < x.2.1 := fun x hx => (h.p x hx).1
  have hW : 0 < prM l := (prM_pos l 1 hp (by decide)).1
  unfold F_law_mixed
  simp [defF_out, b_law_mixed]
  refine for_state (k := fun u => (U.sq u).out = _) (fun i e m1 => ∃ x4 x5 x6 : Option Sl, e = [some (.fz (.lst (l.map dM))), none, some (.fz (.int ((l.take i).foldl (fun w x => w * x.2.1) 1 : Nat))), some (.ol []), x4, x5, x6, none, none, none] ∧ m1 = m) ⟨none, none, none, rfl, rfl⟩ ?_ ?_
  · rintro i x e m1 hx ⟨x4, x5, x6, rfl, rfl⟩
    have hm := List.mem_of_getElem? hx
    have t1 : l.take (i + 1) = l.take i ++ [x] := by rw [List.take_add_one, hx]; rfl
    have ef : (l.take (i + 1)).foldl (fun w x => w * x.2.1) 1 = (l.take i).foldl (fun w x => w * x.2.1) 1 * x.2.1 := by rw [t1, List.foldl_append]; rfl
    rw [ef]
    generalize (l.take i).foldl (fun w x => w * x.2.1) 1 = w at *
    have hq := mul_sml (w : Int) (b := x.2.1) (by have := (h.p x hm).2; omega)
    rw [← Int.natCast_mul] at hq
    exact ⟨_, _, mx_turn1 hq, _, _, _, rfl, rfl⟩
  · rintro e m1 ⟨x4, x5, x6, rfl, rfl⟩
    rw [List.take_of_length_le (Nat.le_refl _)]
    have eL : l.foldl (fun w x => w * x.2.1) 1 = prM l := rfl
    rw [eL]
    have er : ∀ (E : Qd.Env), rng3G [.int 60, .int (-1), .int (-1)] E m1 = .ok (downs.map fun b => D.int (b : Nat)) E m1 := fun E => by
      rw [← rangeN_60]
      unfold rng3G
      exact if_pos (by decide)
    simp [er]
    refine for_state (k := fun u => (U.sq u).out = _) (fun i e m2 => ∃ y4 y5 y6 : Option Sl, e = [some (.fz (.lst (l.map dM))), none, some (.fz (.int (prM l : Nat))), some (.ol ((((downs.take i).filter fun b => decide (szM l b ≠ 0)).map fun b => (szM l b, b)).map dT)), y4, y5, y6, none, none, none] ∧ m2 = m1) ⟨x4, x5, x6, rfl, rfl⟩ ?_ ?_
    · rintro i b e m2 hb ⟨y4, y5, y6, rfl, rfl⟩
      have t1 : downs.take (i + 1) = downs.take i ++ [b] := by rw [List.take_add_one, hb]; rfl
      have hlen : (((downs.take i).filter fun b => decide (szM l b ≠ 0)).map fun b => (szM l b, b)).length < 16777216 := by
        have h1 := List.length_filter_le (fun b => decide (szM l b ≠ 0)) (downs.take i)
        have h2 : (downs.take i).length ≤ 61 := by rw [List.length_take]; exact Nat.min_le_right _ _
        rw [List.length_map]
        omega
      obtain ⟨p4, p5, p6, e⟩ := mx_turn2 (l := l) (W := prM l) (b := b) (o1 := none) (o4 := y4) (o5 := y5) (o6 := y6) (o7 := none) (m := m2) h.w h.t h.p h.b hlen
      refine ⟨_, _, e, p4, p5, p6, ?_, rfl⟩
      rw [t1, List.filter_append, List.map_append]
      have e0 : (l.map fun x => qoF (prM l) (frM b x)).sum = szM l b := rfl
      rw [e0]
      by_cases z : szM l b = 0
      · simp [z]
      · simp [z]
    · rintro e m2 ⟨y4, y5, y6, rfl, rfl⟩
      rw [List.take_of_length_le (Nat.le_refl _)]
      have ec : ((downs.filter fun b => decide (szM l b ≠ 0)).map fun b => (szM l b, b)) = canon (szM l) := rfl
      rw [ec]
      have lo := law_low_ok (ts := canon (szM l)) hW h.w (fun t ht => by
        obtain ⟨_, h2, _⟩ := canon_mem.mp ht
        rw [← h2]
        have h3 := sum_abs (prM l) (1000000000000 * 1000000000000000000000) (l.map (frM t.2)) fun f hf => by
          obtain ⟨x, hx, rfl⟩ := List.mem_map.mp hf
          show (coT x.1 t.2 * x.2.2).natAbs ≤ _
          rw [Int.natAbs_mul]
          exact Nat.mul_le_mul (coT_le (h.t x hx) (h.b x hx) _) (h.f x hx)
        rw [List.map_map, List.length_map] at h3
        have h4 : l.length * (1000000000000 * 1000000000000000000000 * prM l) ≤ 10 * (1000000000000 * 1000000000000000000000 * 1000000) := Nat.mul_le_mul h.n (Nat.mul_le_mul (Nat.le_refl _) h.w)
        have h5 : szM l t.2 = (l.map ((fun f => qoF (prM l) f) ∘ frM t.2)).sum := rfl
        rw [h5]
        exact Nat.lt_of_le_of_lt (Nat.le_trans h3 h4) (by decide)) m2
      simp [lo]
theorem vl_mixed {l : List Mx} (h : ∀ x ∈ l, 0 < x.2.1) {b : Nat} (hb : b ≤ 60) : vl (canon (szM l)) (prM l) b = (l.map fun x => vl x.1 x.2.1 b * (x.2.2 : Rat)).sum := by
  have hW := prM_pos l 1 h (by decide)
  unfold vl
  rw [coT_canon _ hb]
  have e := div_sum (L := prM l) hW.1 (l.map (frM b)) fun f hf => by
    obtain ⟨x, hx, rfl⟩ := List.mem_map.mp hf
    exact ⟨h x hx, hW.2.2 x hx⟩
  rw [List.map_map, List.map_map] at e
  have e2 : szM l b = (l.map ((fun f => qoF (prM l) f) ∘ frM b)).sum := rfl
  rw [e2, e]
  congr 1
  apply List.map_congr_left
  intro x hx
  have := vF_T x.2.2 (h x hx) [(coT x.1 b, b)] b
  have e3 : vF (frT x.2.2 [(coT x.1 b, b)] x.2.1) b = Rat.divInt (coT x.1 b * x.2.2) (x.2.1 : Nat) := by
    simp [vF, frT, Rat.add_zero]
  have e4 : vl [(coT x.1 b, b)] x.2.1 b = Rat.divInt (coT x.1 b) (x.2.1 : Nat) := by
    simp [vl, coT]
  rw [e3, e4] at this
  exact this
end Sp
end
section
set_option Elab.async false
set_option linter.all false
set_option autoImplicit false
set_option maxRecDepth 100000
namespace Qd
open PySem PySem.Spec PyProof.Rows L2
/-! data that repr shows, numbers of up to fifty figures -/
def Shx (d : D) (k w : Nat) : Prop := ∃ p, pdO d = some p ∧ p.showable = true ∧ p.depth ≤ k ∧ p.leavesShort 60 = true ∧ p.weight ≤ w
def ShxL (l : List D) (k w : Nat) : Prop := ∃ ps, pdOs l = some ps ∧ PyData.showableAll ps = true ∧ PyData.depthAll ps ≤ k ∧ PyData.leavesShortAll 60 ps = true ∧ PyData.weightAll ps ≤ w
theorem Shx.repr {d : D} {k w : Nat} (h : Shx d k w) (hk : k ≤ 60) (hw : w ≤ 200000) : ∃ r, reprG [d] = some (.str r) := by
  obtain ⟨p, h1, h2, h3, h4, h5⟩ := h
  unfold reprG
  simp only [h1]
  have h6 := PyData.shown_le 60 (by decide) p h4
  have h7 : (60 + 2) * p.weight ≤ 62 * 200000 := Nat.mul_le_mul (by decide) (by omega)
  exact ⟨_, if_pos ⟨h2, by omega, by omega⟩⟩
theorem Shx.mono {d : D} {k w k' w' : Nat} (h : Shx d k w) (hk : k ≤ k') (hw : w ≤ w') : Shx d k' w' := by
  obtain ⟨p, h1, h2, h3, h4, h5⟩ := h
  exact ⟨p, h1, h2, by omega, h4, by omega⟩
theorem ShxL.mono {l : List D} {k w k' w' : Nat} (h : ShxL l k w) (hk : k ≤ k') (hw : w ≤ w') : ShxL l k' w' := by
  obtain ⟨p, h1, h2, h3, h4, h5⟩ := h
  exact ⟨p, h1, h2, by omega, h4, by omega⟩
theorem log50 {n : Nat} (h : n < 10 ^ 50) : n.log2 < 170 := by
  by_cases z : n = 0
  · rw [z]; decide
  · rw [Nat.log2_lt z]
    exact Nat.lt_of_lt_of_le h (by decide)
theorem Shx.int {i : Int} (h : i.natAbs < 10 ^ 50) {k w : Nat} (hw : 171 ≤ w) : Shx (.int i) k w := by
  have hl := log50 h
  have ht : (PyData.shown (.int i)).length ≤ 60 := by
    have e := int_text_length_le10 (k := 50) (by decide) h
    show (Str.ofString (toString i)).length ≤ 60
    rw [PySem.ofString_length]
    omega
  refine ⟨_, rfl, decide_eq_true (by omega), Nat.zero_le _, decide_eq_true ht, ?_⟩
  simp only [PyData.weight]
  split <;> omega
theorem ShxL.nil {k w : Nat} : ShxL [] k w := ⟨[], rfl, rfl, Nat.zero_le _, rfl, Nat.zero_le _⟩
theorem ShxL.cons {d : D} {l : List D} {k w w' : Nat} (h : Shx d k w) (hl : ShxL l k w') : ShxL (d :: l) k (w + 1 + w') := by
  obtain ⟨p, h1, h2, h3, h4, h5⟩ := h
  obtain ⟨ps, k1, k2, k3, k4, k5⟩ := hl
  refine ⟨p :: ps, by rw [pdOs, h1, k1], ?_, ?_, ?_, ?_⟩
  · simp only [PyData.showableAll, h2, k2, Bool.and_self]
  · simp only [PyData.depthAll]
    omega
  · simp only [PyData.leavesShortAll, h4, k4, Bool.and_self]
  · simp only [PyData.weightAll]
    omega
theorem ShxL.map {α : Type} {f : α → D} {k w : Nat} : ∀ {l : List α}, (∀ a ∈ l, Shx (f a) k w) → ShxL (l.map f) k ((w + 1) * l.length)
  | [], _ => .nil
  | a :: l, h => by
    have := ShxL.cons (h a List.mem_cons_self) (ShxL.map (l := l) fun b hb => h b (List.mem_cons_of_mem _ hb))
    refine this.mono (Nat.le_refl _) ?_
    rw [List.length_cons, Nat.mul_add]
    omega
theorem Shx.tup {l : List D} {k w : Nat} (h : ShxL l k w) : Shx (.tup l) (k + 1) w := by
  obtain ⟨ps, k1, k2, k3, k4, k5⟩ := h
  refine ⟨.tuple ps, ?_, k2, ?_, k4, k5⟩
  · rw [pdO, k1]; rfl
  · simp only [PyData.depth]
    omega
end Qd
namespace Sp
open PySem PySem.Spec PyProof.Rows L2 Qd
theorem shx_T {t : Tm} (h : t.1.natAbs < 10 ^ 50) (h2 : t.2 ≤ 60) : Shx (dT t) 1 400 := by
  refine (Shx.tup ((ShxL.cons (k := 0) (w := 171) (Shx.int h (Nat.le_refl _)) (ShxL.cons (w := 171) (Shx.int ?_ (Nat.le_refl _)) (ShxL.nil (w := 0)))))).mono (Nat.le_refl _) (by decide)
  exact Nat.lt_of_le_of_lt (show ((t.2 : Nat) : Int).natAbs ≤ 60 from h2) (by decide)
theorem shx_F {ts : List Tm} {p : Nat} (h : Tms ts) (hb : ∀ t ∈ ts, t.1.natAbs < 10 ^ 50) (hp : p ≤ 1000000) : ∃ r, reprG [.tup [dTs ts, .int (p : Nat)]] = some (.str r) := by
  have h1 : Shx (dTs ts) 2 (401 * ts.length) := Shx.tup (ShxL.map fun t ht => shx_T (hb t ht) (h.le t ht))
  have h2 : Shx (.int (p : Nat)) 2 171 := Shx.int (Nat.lt_of_le_of_lt (show ((p : Nat) : Int).natAbs ≤ 1000000 from hp) (by decide)) (Nat.le_refl _)
  have h3 := Shx.tup (ShxL.cons h1 (ShxL.cons h2 (ShxL.nil (w := 0))))
  have := h.len
  exact h3.repr (by decide) (by omega)
theorem parts_prop (ts : List Tm) (p : Nat) (m : MS) : F_Form_parts [dF ts p] m = .ok (.int (p : Nat)) [] m := by
  unfold F_Form_parts
  simp [defF_out, b_Form_parts, under_is]
theorem opEq_s (s : Str) : opEq (.str s) (.str s) = some (.bl true) := by
  have := cod_str.op (by decide) s s
  rw [this]
  simp
theorem law_is_ok {ts : List Tm} {p P B : Nat} (h : Fm ts p P B) (hB : B < 10 ^ 50) (m : MS) : F_law_is [dF ts p, .tup [dTs ts, .int (p : Nat)]] m = .ok (.bl true) [] m := by
  obtain ⟨r, hr⟩ := shx_F h.low.t (fun t ht => Nat.lt_of_le_of_lt (h.b t ht) hB) h.low.le
  unfold F_law_is
  simp [defF_out, b_law_is, insF, terms_prop, parts_prop, hr, opEq_s]
theorem fm_uniq {ts us : List Tm} {p q P Q B C : Nat} (h : Fm ts p P B) (k : Fm us q Q C) (e : ∀ b, b ≤ 60 → vl ts p b = vl us q b) : ts = us ∧ p = q := low_uniq h.low k.low e
theorem len_form (ts : List Tm) (p : Nat) (m : MS) : F_Form_len [dF ts p] m = .ok (.int (ts.length : Nat)) [] m := by
  unfold F_Form_len
  simp [defF_out, b_Form_len, sums_is]
/-- what is mixed, in lowest terms -/
theorem mixed_fm {l : List Mx} (h : Mxs l) (m : MS) : ∃ ts p, F_law_mixed [.lst (l.map dM)] m = .ok (.tup [dTs ts, .int (p : Nat)]) [] m ∧ Low ts p ∧ ∀ b, b ≤ 60 → vl ts p b = (l.map fun x => vl x.1 x.2.1 b * (x.2.2 : Rat)).sum := by
  have hp : ∀ x ∈ l, 0 < x.2.1 := fun x hx => (h.p x hx).1
  have hW : 0 < prM l := (prM_pos l 1 hp (by decide)).1
  exact ⟨_, _, law_mixed_ok h m, low_low (canon_tms _) hW h.w, fun b hb => by rw [vl_low hW, vl_mixed hp hb]⟩
end Sp
end
section
set_option Elab.async false
set_option linter.all false
set_option autoImplicit false
set_option maxRecDepth 100000
namespace Sp
open PySem PySem.Spec PyProof.Rows L2 Qd
/-! from where the first term rules, the sign stays -/
def sabs (r : List Tm) (n : Nat) : Int := (r.map fun u => ((pw u n).natAbs : Int)).sum
theorem sabs_nn : ∀ (r : List Tm) (n : Nat), 0 ≤ sabs r n
  | [], n => by simp [sabs]
  | u :: r, n => by
    have := sabs_nn r n
    unfold sabs at *
    rw [List.map_cons, List.sum_cons]
    omega
theorem smT_le : ∀ (r : List Tm) (n : Nat), ((smT r n).natAbs : Int) ≤ sabs r n
  | [], n => by simp [sabs, smT, szs]
  | u :: r, n => by
    have := smT_le r n
    unfold smT szs sabs at *
    rw [List.map_cons, List.map_cons, List.sum_cons, List.sum_cons]
    have h2 := Int.natAbs_add_le (pw u n) (r.map fun t => pw t n).sum
    omega
theorem smT_cons (t : Tm) (r : List Tm) (n : Nat) : smT (t :: r) n = pw t n + smT r n := by
  unfold smT szs
  rw [List.map_cons, List.sum_cons]
theorem abs_succ (u : Tm) (n : Nat) : ((pw u (n + 1)).natAbs : Int) = ((pw u n).natAbs : Int) * (u.2 : Nat) := by
  rw [pw_succ, Int.natAbs_mul]
  simp
theorem sabs_succ {b : Nat} : ∀ {r : List Tm} {n : Nat}, (∀ u ∈ r, u.2 ≤ b) → sabs r (n + 1) ≤ sabs r n * b
  | [], n, _ => by simp [sabs]
  | u :: r, n, h => by
    have ih := sabs_succ (b := b) (r := r) (n := n) fun v hv => h v (List.mem_cons_of_mem _ hv)
    have h1 := h u List.mem_cons_self
    unfold sabs at *
    rw [List.map_cons, List.map_cons, List.sum_cons, List.sum_cons, abs_succ, Int.add_mul]
    have : ((pw u n).natAbs : Int) * (u.2 : Nat) ≤ ((pw u n).natAbs : Int) * (b : Nat) := Int.mul_le_mul_of_nonneg_left (by omega) (by omega)
    omega
theorem dom_sgn {x y : Int} (h : (y.natAbs : Int) < (x.natAbs : Int)) : sgn (x + y) = sgn x := by
  unfold sgn
  split <;> split <;> (try split) <;> (try split) <;> omega
theorem pos_pow {b n : Nat} (hb : 0 < b) : 0 < b ^ n := Nat.pow_pos hb
theorem sgn_pw {t : Tm} (ht : 0 < t.2) (n : Nat) : sgn (pw t n) = sgn t.1 := by
  have h : (0 : Int) < (t.2 : Int) ^ n := by
    have := pos_pow (n := n) ht
    have e : ((t.2 ^ n : Nat) : Int) = (t.2 : Int) ^ n := by simp
    omega
  unfold pw sgn
  generalize (t.2 : Int) ^ n = y at h
  rcases Int.lt_trichotomy t.1 0 with z | z | z
  · have : t.1 * y < 0 := Int.mul_neg_of_neg_of_pos z h
    rw [if_neg (by omega), if_neg (by omega), if_neg (by omega), if_neg (by omega)]
  · rw [z]
    simp
  · have : 0 < t.1 * y := Int.mul_pos z h
    rw [if_neg (by omega), if_pos this, if_neg (by omega), if_pos z]
theorem rld0 {t : Tm} {r : List Tm} (n : Nat) (z : t.2 = 0) : rld (t :: r) n = decide (0 < n) := if_pos z
theorem rld1 {t : Tm} {r : List Tm} (n : Nat) (z : ¬ t.2 = 0) : rld (t :: r) n = decide (sabs r n < ((pw t n).natAbs : Int)) := if_neg z
theorem rld_stay {ts : List Tm} (h : Tms ts) {N : Nat} (hN : rld ts N = true) : ∀ k, rld ts (N + k) = true ∧ sg ts (N + k) = sg ts N := by
  cases ts with
  | nil => exact fun k => ⟨rfl, rfl⟩
  | cons t r =>
    have hd := h.dec
    rw [List.pairwise_cons] at hd
    by_cases z : t.2 = 0
    · have hr : r = [] := by
        cases r with
        | nil => rfl
        | cons u r =>
          have := hd.1 u List.mem_cons_self
          omega
      subst hr
      rw [rld0 _ z] at hN
      have hp : 0 < N := of_decide_eq_true hN
      have s0 : ∀ n, 0 < n → sg [t] n = 0 := fun n hn => by
        unfold sg
        rw [smT_cons]
        have : pw t n = 0 := by
          unfold pw
          rw [z]
          obtain ⟨k, rfl⟩ : ∃ k, n = k + 1 := ⟨n - 1, by omega⟩
          simp [Int.pow_succ]
        rw [this]
        rfl
      intro k
      refine ⟨?_, by rw [s0 _ (by omega), s0 _ hp]⟩
      rw [rld0 _ z]
      exact decide_eq_true (by omega)
    · have hb : ∀ u ∈ r, u.2 ≤ t.2 := fun u hu => by have := hd.1 u hu; omega
      have dm : ∀ k, sabs r (N + k) < ((pw t (N + k)).natAbs : Int) := by
        intro k
        induction k with
        | zero =>
          rw [rld1 _ z] at hN
          exact of_decide_eq_true hN
        | succ k ih =>
          have h1 := sabs_succ (n := N + k) hb
          rw [show N + (k + 1) = N + k + 1 by omega, abs_succ]
          have h2 : sabs r (N + k) * (t.2 : Nat) < ((pw t (N + k)).natAbs : Int) * (t.2 : Nat) := Int.mul_lt_mul_of_pos_right ih (by omega)
          omega
      have sgk : ∀ k, sg (t :: r) (N + k) = sgn t.1 := fun k => by
        unfold sg
        rw [smT_cons, dom_sgn (by have := smT_le r (N + k); have := dm k; omega), sgn_pw (by omega)]
      intro k
      refine ⟨?_, by rw [sgk k, ← sgk 0]; rfl⟩
      rw [rld1 _ z]
      exact decide_eq_true (dm k)
/-- at last the first term rules -/
theorem big_b : ∀ b, b ≤ 60 → 4000000000 * b ^ 3999 < (b + 1) ^ 3999 := by
  intro b hb
  have : (List.range 61).all (fun b => decide (4000000000 * b ^ 3999 < (b + 1) ^ 3999)) = true := by decide +kernel
  exact of_decide_eq_true (List.all_eq_true.mp this b (List.mem_range.mpr (by omega)))
theorem sabs_big {b n : Nat} : ∀ {r : List Tm}, (∀ u ∈ r, u.2 ≤ b ∧ u.1.natAbs ≤ 1000000000) → sabs r n ≤ ((r.length * (1000000000 * b ^ n) : Nat) : Int)
  | [], _ => by simp [sabs]
  | u :: r, h => by
    have ih := sabs_big (b := b) (n := n) (r := r) fun v hv => h v (List.mem_cons_of_mem _ hv)
    have h1 := h u List.mem_cons_self
    unfold sabs at *
    rw [List.map_cons, List.sum_cons, List.length_cons, Nat.add_mul]
    have : (pw u n).natAbs ≤ 1000000000 * b ^ n := by
      unfold pw
      rw [Int.natAbs_mul, Int.natAbs_pow, Int.natAbs_natCast]
      exact Nat.mul_le_mul h1.2 (Nat.pow_le_pow_left h1.1 n)
    omega
theorem rld_last {ts : List Tm} (h : Tms ts) (hb : ∀ t ∈ ts, t.1.natAbs ≤ 1000000000) (hn : ts.length ≤ 5) : rld ts 3999 = true := by
  cases ts with
  | nil => rfl
  | cons t r =>
    have hd := h.dec
    rw [List.pairwise_cons] at hd
    by_cases z : t.2 = 0
    · rw [rld0 _ z]
      rfl
    · rw [rld1 _ z]
      refine decide_eq_true ?_
      obtain ⟨b, hbb⟩ : ∃ b, t.2 = b + 1 := ⟨t.2 - 1, by omega⟩
      have h1 := sabs_big (b := b) (n := 3999) (r := r) fun u hu => ⟨by have := hd.1 u hu; omega, hb u (List.mem_cons_of_mem _ hu)⟩
      have h2 := big_b b (by have := h.le t List.mem_cons_self; omega)
      have h3 : (b + 1) ^ 3999 ≤ (pw t 3999).natAbs := by
        unfold pw
        rw [Int.natAbs_mul, Int.natAbs_pow, Int.natAbs_natCast, hbb]
        have h4 := h.nz t List.mem_cons_self
        exact Nat.le_mul_of_pos_left _ (by omega)
      rw [List.length_cons] at hn
      have h5 : r.length * (1000000000 * b ^ 3999) ≤ 4 * (1000000000 * b ^ 3999) := Nat.mul_le_mul (by omega) (Nat.le_refl _)
      generalize b ^ 3999 = x at *
      generalize (b + 1) ^ 3999 = y at *
      generalize (pw t 3999).natAbs = w at *
      generalize r.length * (1000000000 * x) = v at *
      omega
/-- the form's turns and the law's are the same -/
theorem turns_same {ts : List Tm} {p : Nat} (h : Tms ts) (hb : ∀ t ∈ ts, t.1.natAbs ≤ 1000000000) (hn : ts.length ≤ 5) (m : MS) : ∃ N, 0 < N ∧ N ≤ 3999 ∧ rld ts N = true ∧ (∀ n, 0 < n → n < N → rld ts n = false) ∧
    F_Form_turns [dF ts p] m = .ok (.tup ((trn (sg ts) N).map dTn)) [] m ∧ F_law_turns [dTs ts] m = .ok (.tup [.tup ((trn (sg ts) N).map dTn), .int (N : Nat)]) [] m := by
  obtain ⟨N, n1, n2, n3⟩ := first_of (p := rld ts) 3999 (rld_last h hb hn)
  by_cases z : N = 0
  · subst z
    have st := rld_stay h n2
    have h1 := (st 1).1
    rw [Nat.zero_add] at h1
    refine ⟨1, by decide, by decide, h1, fun n hn hn2 => by omega, ?_, lturns_ok h (by decide) (by decide) h1 (fun n hn hn2 => by omega) m⟩
    rw [turns_ok h (by decide) n2 n3 m, ← trn_stay (s := sg ts) (N := 0) (fun n _ => by have := (st n).2; rwa [Nat.zero_add] at this) 1]
  · exact ⟨N, by omega, n1, n2, fun n _ => n3 n, turns_ok h (by omega) n2 n3 m, lturns_ok h (by omega) (by omega) n2 (fun n _ => n3 n) m⟩
/-! ### signs turned -/
theorem pw_neg (t : Tm) (n : Nat) : pw (-t.1, t.2) n = -pw t n := by
  unfold pw
  rw [Int.neg_mul]
theorem smT_neg : ∀ (ts : List Tm) (n : Nat), smT (negT ts) n = -smT ts n
  | [], n => rfl
  | t :: ts, n => by
    rw [show negT (t :: ts) = (-t.1, t.2) :: negT ts from rfl, smT_cons, smT_cons, pw_neg, smT_neg ts n]
    omega
theorem sg_neg (ts : List Tm) (n : Nat) : sg (negT ts) n = -sg ts n := by
  unfold sg
  rw [smT_neg, sgn_neg]
theorem trn_neg {s s' : Nat → Int} (h : ∀ n, s' n = -s n) : ∀ n, trn s' n = (trn s n).map fun x => (x.1, -x.2)
  | 0 => by simp [trn, h]
  | n + 1 => by
    unfold trn
    rw [trn_neg h n, h, h]
    by_cases z : s (n + 1) = s n
    · rw [if_pos z, if_pos (by omega)]
    · rw [if_neg z, if_neg (by omega), List.map_append]
      simp
theorem rld_neg (ts : List Tm) (n : Nat) : rld (negT ts) n = rld ts n := by
  cases ts with
  | nil => rfl
  | cons t r =>
    show (if t.2 = 0 then _ else _) = if t.2 = 0 then _ else _
    split
    · rfl
    · have e : ((negT r).map fun u => ((pw u n).natAbs : Int)) = r.map fun u => ((pw u n).natAbs : Int) := by
        unfold negT
        rw [List.map_map]
        apply List.map_congr_left
        intro u _
        simp only [Function.comp]
        rw [pw_neg, Int.natAbs_neg]
      rw [show List.map (fun t : Tm => (-t.1, t.2)) r = negT r from rfl, e, pw_neg, Int.natAbs_neg]
/-! ### what repr shows -/
theorem trn_range {s : Nat → Int} (hs : ∀ n, (s n).natAbs ≤ 1) : ∀ n, ∀ x ∈ trn s n, x.1 ≤ n ∧ x.2.natAbs ≤ 1
  | 0, x, hx => by
    simp [trn] at hx
    subst hx
    exact ⟨Nat.le_refl _, hs 0⟩
  | n + 1, x, hx => by
    unfold trn at hx
    split at hx
    · have := trn_range hs n x hx
      omega
    · rcases List.mem_append.mp hx with hx | hx
      · have := trn_range hs n x hx
        omega
      · simp at hx
        subst hx
        exact ⟨Nat.le_refl _, hs _⟩
theorem sgn_abs (x : Int) : (sgn x).natAbs ≤ 1 := by
  unfold sgn
  split <;> (try split) <;> decide
theorem shw_small {i : Int} (h : i.natAbs < 4096) : Shw (.int i) 0 12 := by
  have hl : i.natAbs.log2 < 12 := by
    by_cases z : i.natAbs = 0
    · rw [z]; decide
    · rw [Nat.log2_lt z]
      exact h
  refine ⟨_, rfl, decide_eq_true (by omega), Nat.zero_le _, decide_eq_true (PyData.shown_int_le (Nat.lt_of_lt_of_le h (by decide))), ?_⟩
  simp only [PyData.weight]
  split <;> omega
theorem repr_Tn {l : List (Nat × Int)} (h : ∀ x ∈ l, x.1 ≤ 4000 ∧ x.2.natAbs ≤ 1) (hn : l.length ≤ 4001) : ∃ r, reprG [.tup (l.map dTn)] = some (.str r) := by
  have h1 : ShwL (l.map dTn) 1 ((30 + 1) * l.length) := ShwL.map fun x hx => (Shw.tup (ShwL.cons (shw_small (i := (x.1 : Nat)) (by have := (h x hx).1; omega)) (ShwL.cons (shw_small (i := x.2) (by have := (h x hx).2; omega)) (ShwL.nil (w := 0))))).mono (Nat.le_refl _) (by decide)
  exact (Shw.tup h1).repr (by decide) (by omega)
end Sp
end
section
set_option Elab.async false
set_option linter.all false
set_option autoImplicit false
set_option maxRecDepth 100000
set_option maxHeartbeats 4000000
namespace Sk22
open PySem PySem.Spec PyProof.Rows L2 Qd Sp
theorem Dr_filter {ts : List Sp.Tm} {n : Nat} (h : Dr ts n) (p : Sp.Tm → Bool) : Dr (ts.filter p) n :=
  ⟨⟨fun t ht => h.t.nz t (List.mem_filter.mp ht).1, fun t ht => h.t.le t (List.mem_filter.mp ht).1, h.t.dec.filter _⟩, fun t ht => h.b t (List.mem_filter.mp ht).1, Nat.le_trans (List.length_filter_le _ _) h.n⟩
theorem smT_scl (k : Nat) (n : Nat) : ∀ ts : List Sp.Tm, smT (scl k ts) n = k * smT ts n
  | [] => by simp [smT, szs, scl]
  | t :: ts => by
    rw [show scl k (t :: ts) = ((k : Int) * t.1, t.2) :: scl k ts from rfl, smT_cons, smT_cons, smT_scl k n ts, Int.mul_add]
    congr 1
    unfold pw
    rw [Int.mul_assoc]
theorem sgn_mul {k : Nat} (hk : 0 < k) (x : Int) : sgn (k * x) = sgn x := by
  have h : (0 : Int) < k := by omega
  unfold sgn
  generalize (k : Int) = y at h
  rcases Int.lt_trichotomy x 0 with z | z | z
  · have : y * x < 0 := Int.mul_neg_of_pos_of_neg h z
    rw [if_neg (by omega), if_neg (by omega), if_neg (by omega), if_neg (by omega)]
  · rw [z]
    simp
  · have : 0 < y * x := Int.mul_pos h z
    rw [if_neg (by omega), if_pos this, if_neg (by omega), if_pos z]
theorem sg_low {ts : List Sp.Tm} {p : Nat} (hp : 0 < p) (n : Nat) : sgn (smT ts n) = sg (lowT ts p) n := by
  have e := (low_back (ts := ts) hp).1
  conv => lhs; rw [← e]
  rw [smT_scl, sgn_mul (shr_pos hp)]
  rfl
theorem trn_const {s : Nat → Int} : ∀ (k : Nat), (∀ n, n ≤ k → s n = s 0) → trn s k = [(0, s 0)]
  | 0, _ => rfl
  | k + 1, h => by
    rw [trn, if_pos (by rw [h (k + 1) (Nat.le_refl _), h k (by omega)])]
    exact trn_const k fun n hn => h n (by omega)
def late : List Sp.Tm := [(1, 60), (-1000000000, 59)]
theorem late_tms : Tms late := ⟨by decide, by decide, by decide⟩
theorem late_len {N : Nat} (h0 : 0 < N) (h1 : rld late N = true) (h2 : ∀ n, 0 < n → n < N → rld late n = false) : (trn (sg late) N).length = 2 := by
  have a1 : rld late 1234 = true := by decide +kernel
  have a2 : rld late 1233 = false := by decide +kernel
  have hN : N = 1234 := by
    rcases Nat.lt_trichotomy N 1234 with z | z | z
    · have := (rld_stay late_tms h1 (1233 - N)).1
      rw [show N + (1233 - N) = 1233 by omega, a2] at this
      cases this
    · exact z
    · have := h2 1234 (by decide) z
      rw [a1] at this
      cases this
  subst hN
  have b : (List.range 1234).all (fun n => decide (sg late n = -1)) = true := by decide +kernel
  have s0 : ∀ n, n ≤ 1233 → sg late n = -1 := fun n hn => of_decide_eq_true (List.all_eq_true.mp b n (List.mem_range.mpr (by omega)))
  have s1 : sg late 1234 = 1 := by decide +kernel
  rw [show (1234 : Nat) = 1233 + 1 from rfl, trn, if_neg (by rw [s0 1233 (by decide), show 1233 + 1 = 1234 from rfl, s1]; decide), trn_const 1233 fun n hn => by rw [s0 n hn, s0 0 (by decide)]]
  rfl
theorem eqTn (l : List (Nat × Int)) : opEq (.tup (l.map dTn)) (.tup (l.map dTn)) = some (.bl true) := by
  have := (cod_tup cod_Tn).op (by decide) l l
  simpa using this
theorem neTn (l : List (Nat × Int)) : opNe (.tup (l.map dTn)) (.tup (l.map dTn)) = some (.bl false) := by
  have := (cod_tup cod_Tn).opN (by decide) l l
  simpa using this
theorem ne_s (s : Str) : opNe (.str s) (.str s) = some (.bl false) := by
  have := cod_str.opN (by decide) s s
  simpa using this
theorem made_lit {ts : List Sp.Tm} (h : Tms ts) (e : Qd.Env) (m : MS) : madeG "Form" (dflI I_Form_init [.int 1]) [dTs ts] e m = .ok (dF ts 1) e m := by
  have := made_form1 h e m
  rwa [(low1 ts).1, (low1 ts).2] at this
theorem tm0 : Tms [] := ⟨by simp, by simp, by simp⟩
theorem tm1 : Tms [(3, 0)] := ⟨by decide, by decide, by decide⟩
theorem tm2 : Tms [(1, 3), (-3, 1), (2, 0)] := ⟨by decide, by decide, by decide⟩
theorem tm3 : Tms [(1, 2), (-2, 1)] := ⟨by decide, by decide, by decide⟩
theorem mk0 : ∀ (e : Qd.Env) (m : MS), madeG "Form" (dflI I_Form_init [.int 1]) [.tup []] e m = .ok (dF [] 1) e m := made_lit tm0
theorem mk1 : ∀ (e : Qd.Env) (m : MS), madeG "Form" (dflI I_Form_init [.int 1]) [.tup [.tup [.int 3, .int 0]]] e m = .ok (dF [(3, 0)] 1) e m := made_lit tm1
theorem mk2 : ∀ (e : Qd.Env) (m : MS), madeG "Form" (dflI I_Form_init [.int 1]) [.tup [.tup [.int 1, .int 3], .tup [.int (-3), .int 1], .tup [.int 2, .int 0]]] e m = .ok (dF [(1, 3), (-3, 1), (2, 0)] 1) e m := made_lit tm2
theorem mk3 : ∀ (e : Qd.Env) (m : MS), madeG "Form" (dflI I_Form_init [.int 1]) [.tup [.tup [.int 1, .int 2], .tup [.int (-2), .int 1]]] e m = .ok (dF [(1, 2), (-2, 1)] 1) e m := made_lit tm3
theorem mk4 : ∀ (e : Qd.Env) (m : MS), madeG "Form" (dflI I_Form_init [.int 1]) [.tup [.tup [.int 1, .int 60], .tup [.int (-1000000000), .int 59]]] e m = .ok (dF late 1) e m := made_lit late_tms
theorem upto1 {p : Nat → Prop} (h0 : p 0) : ∀ n, n < 1 → p n
  | 0, _ => h0
  | n + 1, h => by omega
theorem upto2 {p : Nat → Prop} (h0 : p 0) (h1 : p 1) : ∀ n, n < 2 → p n
  | 0, _ => h0
  | 1, _ => h1
  | n + 2, h => by omega
theorem f0 (m : MS) : F_Form_turns [dF [] 1] m = .ok (.tup ([(0, 0)].map dTn)) [] m := by
  have := turns_ok (p := 1) (N := 0) tm0 (by decide) (by decide) (fun n hn => by omega) m
  rwa [show trn (sg []) 0 = [(0, 0)] by decide +kernel] at this
theorem f1 (m : MS) : F_Form_turns [dF [(3, 0)] 1] m = .ok (.tup ([(0, 1), (1, 0)].map dTn)) [] m := by
  have := turns_ok (p := 1) (N := 1) tm1 (by decide) (by decide) (upto1 (by decide)) m
  rwa [show trn (sg [(3, 0)]) 1 = [(0, 1), (1, 0)] by decide +kernel] at this
theorem f2 (m : MS) : F_Form_turns [dF [(1, 3), (-3, 1), (2, 0)] 1] m = .ok (.tup ([(0, 0), (2, 1)].map dTn)) [] m := by
  have := turns_ok (p := 1) (N := 2) tm2 (by decide) (by decide +kernel) (upto2 (by decide +kernel) (by decide +kernel)) m
  rwa [show trn (sg [(1, 3), (-3, 1), (2, 0)]) 2 = [(0, 0), (2, 1)] by decide +kernel] at this
theorem f3 (m : MS) : F_Form_turns [dF [(1, 2), (-2, 1)] 1] m = .ok (.tup ([(0, -1), (1, 0), (2, 1)].map dTn)) [] m := by
  have := turns_ok (p := 1) (N := 2) tm3 (by decide) (by decide +kernel) (upto2 (by decide +kernel) (by decide +kernel)) m
  rwa [show trn (sg [(1, 2), (-2, 1)]) 2 = [(0, -1), (1, 0), (2, 1)] by decide +kernel] at this
theorem e0 : opNe (.tup ([(0, 0)].map dTn)) (.tup [.tup [.int 0, .int 0]]) = some (.bl false) := neTn [(0, 0)]
theorem e1 : opNe (.tup ([(0, 1), (1, 0)].map dTn)) (.tup [.tup [.int 0, .int 1], .tup [.int 1, .int 0]]) = some (.bl false) := neTn [(0, 1), (1, 0)]
theorem e2 : opNe (.tup ([(0, 0), (2, 1)].map dTn)) (.tup [.tup [.int 0, .int 0], .tup [.int 2, .int 1]]) = some (.bl false) := neTn [(0, 0), (2, 1)]
theorem e3 : opNe (.tup ([(0, -1), (1, 0), (2, 1)].map dTn)) (.tup [.tup [.int 0, .int (-1)], .tup [.int 1, .int 0], .tup [.int 2, .int 1]]) = some (.bl false) := neTn [(0, -1), (1, 0), (2, 1)]
theorem rn (t : FG) (cl : List Nat) (b : FS) (e : Qd.Env) (m : MS) : runFor t cl b [] e m = .nx e m := rfl
theorem right_ok {j : Nat} {m : MS} (h : Pur j m) : ∃ m', F_law_right [.obj j] m = .ok (.bl true) [] m' := by
  obtain ⟨ts0, p, m1, t1, t2, t3, t4, t5⟩ := terms_drawn h (n := 5) (by decide)
  have t1 : F_law_terms [.obj j, .int 5] m = .ok (.tup [dTs ts0, .int (p : Nat)]) [] m1 := t1
  obtain ⟨g, m2, g1, g2, g3⟩ := draw_ok (n := 2) t5.p (by decide) (by decide)
  obtain ⟨ts, x6, m3, hx, k, hp3⟩ : ∃ ts x6 m3, sIf (tOf (x2 (xCall F_law_draw (aCons (xVar 0) (aCons (xC (.int 2)) (aNil)))) (xC (.int 0)) (pur2 opEq))) (sSeq (sSet 6 (xLcP (wAny (xVar 4)) (gN 9) [9] (tAll) (xCall F_law_draw (aCons (xVar 0) (aCons (xC (.int 13)) (aNil)))))) (sSet 4 (xA (aCons (xLcP (wAny (xVar 4)) (gT 2 (gsCons (gN 10) (gsCons (gN 11) (gsNil)))) [10, 11] (tOf (x2 (xVar 11) (xVar 6) (pur2 opIn))) (xA (aCons (xVar 10) (aCons (xVar 11) (aNil))) (purA mkTup))) (aNil)) (purA tupG)))) (sNx)
      [some (.fz (.obj j)), none, none, none, some (.fz (dTs ts0)), some (.fz (.int (p : Nat))), none, none, none, none, none, none, none] m1 =
      .nx [some (.fz (.obj j)), none, none, none, some (.fz (dTs ts)), some (.fz (.int (p : Nat))), x6, none, none, none, none, none, none] m3 ∧ Dr ts 5 ∧ Pur j m3 := by
    by_cases z : g = 0
    · obtain ⟨r, m3, r1, r2, r3, r4⟩ := draws_ok (b := 13) g3.p (by decide) (by decide) ts0
      have hin : ∀ t : Sp.Tm, opIn (.int (t.2 : Nat)) (.lst (r.map fun k => D.int (k : Nat))) = some (.bl (decide ((t.2 : Int) ∈ r.map fun k => ((k : Nat) : Int)))) := fun t => by
        have := cod_int.inL (by decide) (t.2 : Int) (r.map fun k => ((k : Nat) : Int))
        rw [List.map_map] at this
        unfold opIn
        rw [show (D.int ∘ fun k : Nat => (k : Int)) = fun k : Nat => D.int (k : Nat) from rfl] at this
        rw [this]
        rfl
      refine ⟨ts0.filter fun t => decide ((t.2 : Int) ∈ r.map fun k => ((k : Nat) : Int)), some (.fz (.lst (r.map fun k => D.int (k : Nat)))), m3, ?_, Dr_filter t2 _, r4.p⟩
      generalize (r.map fun k => D.int (k : Nat)) = R at *
      generalize (r.map fun k => ((k : Nat) : Int)) = R' at *
      simp [g1, z, r1]
      rw [lcR_on (p := fun t : Sp.Tm => decide ((t.2 : Int) ∈ R')) (g := dT)]
      · simp
      · intro t _
        simp [hin]
      · intro t _ _
        simp
    · exact ⟨ts0, none, m2, by simp [g1, z], t2, g3.p⟩
  have low := made_fm k.t t3 (by omega) k.b
  have mk := fun e m => made_form k.t t3 (sml_12 (a := p) (by omega)) e m
  have hlen : (lowT ts p).length ≤ 5 := by
    unfold lowT
    rw [List.length_map]
    exact k.n
  have sl := fun n => sg_low (ts := ts) t3 n
  generalize lowT ts p = A at *
  generalize lowP ts p = P at *
  obtain ⟨N, n1, n2, n3, n4, n5, n6⟩ := turns_same (p := P) low.low.t low.b hlen m3
  have hneg := neg_form low.low m3
  obtain ⟨N', n1', n2', n3', n4', n5', _⟩ := turns_same (p := P) low.neg.low.t low.neg.b (by unfold negT; rw [List.length_map]; exact hlen) m3
  have eN : N' = N := by
    rcases Nat.lt_trichotomy N' N with z | z | z
    · have := n4 N' n1' z
      rw [← rld_neg, n3'] at this
      cases this
    · exact z
    · have := n4' N n1 z
      rw [rld_neg, n3] at this
      cases this
  subst eN
  have ht : trn (sg (negT A)) N' = (trn (sg A) N').map fun x => (x.1, -x.2) := trn_neg (fun n => sg_neg A n) N'
  rw [ht] at n5'
  obtain ⟨q, hq⟩ := last_at (sg A) N'
  have rng := trn_range (s := sg A) (fun n => sgn_abs _) N'
  have tl := trn_len (sg A) N'
  have stay := rld_stay low.low.t n3
  obtain ⟨r1, hr1⟩ := repr_Tn (l := trn (sg A) N') (fun x hx => by have := rng x hx; omega) (by omega)
  obtain ⟨r2, hr2⟩ := repr_Tn (l := (trn (sg A) N').map fun x => (x.1, -x.2)) (fun x hx => by
    obtain ⟨y, hy, rfl⟩ := List.mem_map.mp hx
    have := rng y hy
    simp only [Int.natAbs_neg]
    omega) (by rw [List.length_map]; omega)
  have em : ((trn (sg A) N').map fun x => D.tup [.int (x.1 : Nat), .int (-x.2)]) = ((trn (sg A) N').map fun x => (x.1, -x.2)).map dTn := by
    rw [List.map_map]
    rfl
  generalize ((trn (sg A) N').map fun x => (x.1, -x.2)).map dTn = NT at *
  have sm : ∀ d : Nat, d ≤ 7 → F_law_sum [dTs ts, .int ((N' : Int) + d)] m3 = .ok (.int (smT ts (N' + d))) [] m3 := fun d hd => by
    have := lsum_ok k.t (n := N' + d) (fun t ht => by have := k.b t ht; omega) (by omega) m3
    rwa [Int.natCast_add] at this
  have sgd : ∀ d : Nat, sgn (smT ts (N' + d)) = sg A N' := fun d => by rw [sl, (stay d).2]
  have s1 := sm 1 (by decide)
  have s2 := sm 2 (by decide)
  have s7 := sm 7 (by decide)
  have g1' := sgd 1
  have g2' := sgd 2
  have g7' := sgd 7
  have s1 : F_law_sum [dTs ts, .int ((N' : Int) + 1)] m3 = .ok (.int (smT ts (N' + 1))) [] m3 := s1
  have s2 : F_law_sum [dTs ts, .int ((N' : Int) + 2)] m3 = .ok (.int (smT ts (N' + 2))) [] m3 := s2
  have s7 : F_law_sum [dTs ts, .int ((N' : Int) + 7)] m3 = .ok (.int (smT ts (N' + 7))) [] m3 := s7
  generalize smT ts (N' + 1) = S1 at *
  generalize smT ts (N' + 2) = S2 at *
  generalize smT ts (N' + 7) = S7 at *
  have f0 := f0 m3
  have f1 := f1 m3
  have f2 := f2 m3
  have f3 := f3 m3
  have e0 := e0
  have e1 := e1
  have e2 := e2
  have e3 := e3
  obtain ⟨L, l1, l2, l3, l4, l5, l6⟩ := turns_same (ts := late) (p := 1) late_tms (by decide) (by decide) m3
  have ll := late_len l1 l3 l4
  have e4 := eqTn (trn (sg late) L)
  have hll : ((trn (sg late) L).map dTn).length = 2 := by rw [List.length_map, ll]
  generalize (trn (sg late) L).map dTn = TL at *
  generalize [(0, 0)].map dTn = T0 at *
  generalize [(0, 1), (1, 0)].map dTn = T1 at *
  generalize [(0, 0), (2, 1)].map dTn = T2 at *
  generalize [(0, -1), (1, 0), (2, 1)].map dTn = T3 at *
  refine ⟨m3, ?_⟩
  unfold F_law_right
  simp [defF_out, b_law_right, t1, hT, hsCons, hsNil, -s_if]
  rw [hx]
  simp [mk, terms_prop, insF, insF_turns, n5, n6, hr1, hneg, n5', ne_s, hT, hsCons, hsNil, hr2, em, runFor_cons, rn, s1, s2, s7, lsign_ok, g1', g2', g7', hq, mk0, mk1, mk2, mk3, mk4, f0, f1, f2, f3, e0, e1, e2, e3, l5, l6, e4, hll, pow_109]
theorem law_true (ns : List Int) (h : ns.length ≤ 63) : ∃ m, F_law [.scr ns] [] = .ok (.bl true) [] m := law_of (FR := F_law_right) (K := 4) (by omega) (fun j m h => right_ok h) ns h
end Sk22
end
section
set_option Elab.async false
set_option linter.all false
set_option maxRecDepth 100000
set_option maxHeartbeats 0
open PySem PySem.W PySem.Calls PyProof.Rows
theorem PySem.Challenge.cw_sortdraws_k22_whole_turns_of_forms_holds : PySem.Challenge.rw_sortdraws_k22_whole_turns_of_forms.Holds := by
  w_on; o_law
  refine HandSHeadRun.head_any (r := OpenLaw.row PySem.Challenge.rw_sortdraws_k22_whole_turns_of_forms) (q := view (OpenLaw.row PySem.Challenge.rw_sortdraws_k22_whole_turns_of_forms).prog [45]) (H := Sk22.hk) (ob := Sk22.ob) (M := 20000) (loose := Sk22.ls0 ++ Sk22.ls1 ++ Sk22.ls2) (d := HandSHeadRun.topDef (OpenLaw.row PySem.Challenge.rw_sortdraws_k22_whole_turns_of_forms).prog 45) (kwd := []) Sk22.ob_eq
    (by kernel_rfl) (fun s => by kernel_rfl) Sk22.run (by kernel_rfl) (by kernel_rfl) (by kernel_rfl) (by rfl) (by first | assumption | decide +kernel) (by decide +kernel) ⟨rfl, rfl, rfl, rfl, rfl, by decide +kernel⟩ ?hw ?hc
  case hw => w_witness2
  case hc =>
    refine Qd.walk_ofG (l := PySem.Challenge.rw_sortdraws_k22_whole_turns_of_forms) (n := 63) (k := 10) (x := "_law_script") (CX := L2.CX0) rfl (by decide) (by kernel_rfl) ⟨rfl, by decide, by decide⟩ ?F (fun _ _ _ _ z => z)
    intro w mg fa h Y G hmg0
    obtain ⟨K, KX, c⟩ := Y
    have hmg : mg ("law" : PySem.Str) = some (.ref fa) := by
      have e : (HandSHeadRun.topDef (OpenLaw.row PySem.Challenge.rw_sortdraws_k22_whole_turns_of_forms).prog 45).name = ("law" : PySem.Str) := by kernel_rfl
      rw [← e]
      exact hmg0
    have T : Qd.TopQ Sk22.faQ Sk22.fnQ K mg := ⟨⟨h, KX, G⟩, c⟩
    have e := hmg.symm.trans (T.glo 60)
    cases e
    obtain ⟨fd, F⟩ := T.df 22
    exact ⟨K, fd, fun vs H Q _ => Qd.spD K mg Sk22.F_law vs H Q L2.E0, KX, Sk22.bd_law F, fun H a ns hl _ _ hS => Qd.law_ofD hS hl (Sk22.law_true ns hl), fun base _ _ => Qd.cx0_ofG (Sk22.fn_law T F)⟩
end
