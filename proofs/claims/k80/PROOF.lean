import PyProof.Rows.All
import Wide.All
import OpenK.AllK
import Wide.FinOn
import HandS.ForMost
import HandS.Exc
import HandS.ExcCtx
import HandS.ExcInit
import HandS.ExcInitHot
import HandS.IsInst
import HandS.Flow
import HandS.TupAny
import HandS.Wide
import HandS.HotCalls
import HandS.ExcField
import KE.KExcIs
import KE.KExcSuper
import KE.KSuper
import HandS.ExcSuper
import HandS.HeadHook3
import HandS.HeadEnd
import HandS.ReplaceLit
import HandS.ReplaceDef
import KE.KStateDown
import HandS.Head0
import HandS.Head1
import HandS.Head2
import PySem.Challenge.RW_treestold_k80_texts_of_sayings
set_option Elab.async false
set_option linter.all false
set_option maxRecDepth 100000
set_option maxHeartbeats 4000000
/- Evaluator E, part A: data, the store, worlds, what a value stands for. -/
namespace E
open PySem PySem.Spec PyProof.Rows L2

/-- data: tuples and frozen lists are deep; scr: the script's list of ints (read only); ref: a cell of the store -/
inductive D where
  | non | bl (b : Bool) | int (i : Int) | str (s : Str)
  | tup (l : List D) | lst (l : List D) | scr (l : List Int) | ref (n : Nat)
inductive Cell where
  | lst (l : List D) | ins (C : Str) (fs : List (Str × D))
abbrev Store := List (Option Cell)
/-- a ghost world: where the cells lie, the store, the abstract heap -/
structure Wd where
  φ : Nat → Option Addr
  S : Store
  H : Hp
def Live (W : Wd) (a : Addr) : Prop := ∃ n c, W.S[n]? = some (some c) ∧ W.φ n = some a
def KT (K : PySem.W.Frag) (a : Addr) (xs : List V) : Prop :=
  ∃ (o : Obj) (its : Array Value) (n : Nat), K.lookup a = some o ∧ o.cls = .type "tuple" ∧ o.data = .seq its n ∧ its.size ≤ sizeLine ∧ Vals xs its.toList
def KL (K : PySem.W.Frag) (a : Addr) (xs : List V) : Prop :=
  ∃ (o : Obj) (its : Array Value) (n : Nat), K.lookup a = some o ∧ o.cls = .type "list" ∧ o.dict = none ∧ o.data = .seq its n ∧ its.size ≤ sizeLine ∧ Vals xs its.toList
mutual
/-- v stands for d -/
def Rep (K : PySem.W.Frag) (W : Wd) : D → V → Prop
  | .non, v => v = .non
  | .bl b, v => v = .bl b
  | .int i, v => v = .int i
  | .str s, v => v = .str s
  | .tup ds, v => ∃ a vs, v = .ref a ∧ (W.H a = some (.tup vs) ∨ KT K a vs) ∧ Reps K W ds vs
  | .lst ds, v => ∃ a vs, v = .ref a ∧ W.H a = some (.lst vs) ∧ ¬ Live W a ∧ Reps K W ds vs
  | .scr ns, v => ∃ a, v = .ref a ∧ ((Rd W.H a (.lst (ns.map V.int)) ∧ ¬ Live W a) ∨ KL K a (ns.map V.int))
  | .ref n, v => ∃ a, v = .ref a ∧ n < W.S.length ∧ W.φ n = some a
def Reps (K : PySem.W.Frag) (W : Wd) : List D → List V → Prop
  | [], vs => vs = []
  | d :: ds, vs => ∃ v r, vs = v :: r ∧ Rep K W d v ∧ Reps K W ds r
end
def RepF (K : PySem.W.Frag) (W : Wd) : List (Str × D) → List (Str × V) → Prop
  | [], fv => fv = []
  | (x, d) :: fs, fv => ∃ v r, fv = (x, v) :: r ∧ Rep K W d v ∧ RepF K W fs r
/-- what stands at a cell's address; ca: the classes' addresses -/
def CellAt (K : PySem.W.Frag) (ca : Str → Addr) (W : Wd) (a : Addr) : Cell → Prop
  | .lst ds => ∃ vs, W.H a = some (.lst vs) ∧ Reps K W ds vs
  | .ins C fs => ∃ dx fv, W.H a = some (.ins (ca C) dx fv) ∧ RepF K W fs fv
structure Sim (K : PySem.W.Frag) (ca : Str → Addr) (W : Wd) : Prop where
  at_ : ∀ n c, W.S[n]? = some (some c) → ∃ a, W.φ n = some a ∧ CellAt K ca W a c
  inj : ∀ n m c c' a, W.S[n]? = some (some c) → W.S[m]? = some (some c') → W.φ n = some a → W.φ m = some a → n = m
/-- from one world to a later one -/
structure Ext (W W' : Wd) : Prop where
  len : W.S.length ≤ W'.S.length
  phi : ∀ n, n < W.S.length → W'.φ n = W.φ n
  keep : ∀ a o, W.H a = some o → ¬ Live W a → W'.H a = some o ∧ ¬ Live W' a
theorem Ext.refl (W : Wd) : Ext W W := ⟨Nat.le_refl _, fun _ _ => rfl, fun _ _ h n => ⟨h, n⟩⟩
theorem Ext.trans {W W1 W2 : Wd} (a : Ext W W1) (b : Ext W1 W2) : Ext W W2 :=
  ⟨Nat.le_trans a.len b.len, fun n h => (b.phi n (Nat.lt_of_lt_of_le h a.len)).trans (a.phi n h), fun x o h n => let ⟨h1, n1⟩ := a.keep x o h n; b.keep x o h1 n1⟩
section
variable {K : PySem.W.Frag} {ca : Str → Addr} {W W' : Wd}
theorem Sim.live_tup (s : Sim K ca W) {a : Addr} {vs : List V} (h : W.H a = some (.tup vs)) : ¬ Live W a := fun ⟨n, c, h1, h2⟩ => by
  obtain ⟨a', e, q⟩ := s.at_ n c h1
  rw [h2] at e; cases e
  cases c with
  | lst ds => obtain ⟨_, q, _⟩ := q; rw [h] at q; cases q
  | ins C fs => obtain ⟨_, _, q, _⟩ := q; rw [h] at q; cases q
mutual
theorem Rep.mono (s : Sim K ca W) (e : Ext W W') : ∀ {d : D} {v : V}, Rep K W d v → Rep K W' d v
  | .non, _, h => h
  | .bl _, _, h => h
  | .int _, _, h => h
  | .str _, _, h => h
  | .tup _, _, ⟨a, vs, h1, h2, h3⟩ => ⟨a, vs, h1, h2.imp (fun q => (e.keep a _ q (s.live_tup q)).1) id, Reps.mono s e h3⟩
  | .lst _, _, ⟨a, vs, h1, h2, h3, h4⟩ => let ⟨q1, q2⟩ := e.keep a _ h2 h3; ⟨a, vs, h1, q1, q2, Reps.mono s e h4⟩
  | .scr _, _, ⟨a, h1, h2⟩ => ⟨a, h1, h2.imp (fun ⟨q, nl⟩ => q.elim (fun q => let ⟨q1, q2⟩ := e.keep a _ q nl; ⟨.inl q1, q2⟩) fun ⟨o, q⟩ => let ⟨q1, q2⟩ := e.keep a _ q nl; ⟨.inr ⟨o, q1⟩, q2⟩) id⟩
  | .ref n, _, ⟨a, h1, h2, h3⟩ => ⟨a, h1, Nat.lt_of_lt_of_le h2 e.len, (e.phi n h2).trans h3⟩
theorem Reps.mono (s : Sim K ca W) (e : Ext W W') : ∀ {ds : List D} {vs : List V}, Reps K W ds vs → Reps K W' ds vs
  | [], _, h => h
  | _ :: _, _, ⟨v, r, h1, h2, h3⟩ => ⟨v, r, h1, Rep.mono s e h2, Reps.mono s e h3⟩
end
theorem RepF.mono (s : Sim K ca W) (e : Ext W W') : ∀ {ds : List (Str × D)} {vs : List (Str × V)}, RepF K W ds vs → RepF K W' ds vs
  | [], _, h => h
  | (_, _) :: _, _, ⟨v, r, h1, h2, h3⟩ => ⟨v, r, h1, Rep.mono s e h2, RepF.mono s e h3⟩
end
end E

set_option linter.all false
set_option maxRecDepth 100000
set_option maxHeartbeats 4000000
/- Evaluator E, part B: cells laid, written, dropped; results. -/
namespace E
open PySem PySem.Spec PyProof.Rows L2
section
variable {K : PySem.W.Frag} {ca : Str → Addr} {W W' : Wd}
theorem Reps.length : ∀ {ds : List D} {vs : List V}, Reps K W ds vs → vs.length = ds.length
  | [], _, h => by cases h; rfl
  | _ :: _, _, ⟨v, r, h1, _, h3⟩ => by subst h1; simp [Reps.length h3]
theorem Reps.get : ∀ {ds : List D} {vs : List V} {i : Nat} {d : D}, Reps K W ds vs → ds[i]? = some d → ∃ v, vs[i]? = some v ∧ Rep K W d v
  | [], _, _, _, _, e => by simp at e
  | _ :: _, _, 0, _, ⟨v, r, h1, h2, h3⟩, e => by subst h1; simp at e; subst e; exact ⟨v, rfl, h2⟩
  | _ :: ds, _, i + 1, _, ⟨v, r, h1, h2, h3⟩, e => by
    subst h1
    obtain ⟨x, q1, q2⟩ := Reps.get (i := i) h3 (by simpa using e)
    exact ⟨x, by simpa using q1, q2⟩
theorem Reps.append : ∀ {ds es : List D} {vs us : List V}, Reps K W ds vs → Reps K W es us → Reps K W (ds ++ es) (vs ++ us)
  | [], _, _, _, h, q => by cases h; exact q
  | _ :: _, _, _, _, ⟨v, r, h1, h2, h3⟩, q => by subst h1; exact ⟨v, _, rfl, h2, Reps.append h3 q⟩
theorem Reps.take : ∀ {ds : List D} {vs : List V} (n : Nat), Reps K W ds vs → Reps K W (ds.take n) (vs.take n)
  | _, _, 0, _ => rfl
  | [], _, _ + 1, h => by cases h; rfl
  | _ :: _, _, n + 1, ⟨v, r, h1, h2, h3⟩ => by subst h1; exact ⟨v, _, rfl, h2, Reps.take n h3⟩
theorem Reps.drop : ∀ {ds : List D} {vs : List V} (n : Nat), Reps K W ds vs → Reps K W (ds.drop n) (vs.drop n)
  | _, _, 0, h => h
  | [], _, _ + 1, h => by cases h; rfl
  | _ :: _, _, n + 1, ⟨v, r, h1, h2, h3⟩ => by subst h1; exact Reps.drop n h3
theorem Reps.set : ∀ {ds : List D} {vs : List V} {d : D} {v : V} (n : Nat), Reps K W ds vs → Rep K W d v → Reps K W (ds.set n d) (vs.set n v)
  | [], _, _, _, _, h, _ => by cases h; rfl
  | _ :: _, _, _, _, 0, ⟨v, r, h1, h2, h3⟩, q => by subst h1; exact ⟨_, _, rfl, q, h3⟩
  | _ :: _, _, _, _, n + 1, ⟨v, r, h1, h2, h3⟩, q => by subst h1; exact ⟨_, _, rfl, h2, Reps.set n h3 q⟩
theorem Reps.reverse : ∀ {ds : List D} {vs : List V}, Reps K W ds vs → Reps K W ds.reverse vs.reverse
  | [], _, h => by cases h; rfl
  | d :: ds, _, ⟨v, r, h1, h2, h3⟩ => by
    subst h1
    rw [List.reverse_cons, List.reverse_cons]
    exact Reps.append (Reps.reverse h3) ⟨v, [], rfl, h2, rfl⟩
theorem Reps.nil : Reps K W [] [] := rfl
theorem Reps.cons {d : D} {v : V} {ds : List D} {vs : List V} (h : Rep K W d v) (t : Reps K W ds vs) : Reps K W (d :: ds) (v :: vs) := ⟨v, vs, rfl, h, t⟩
theorem Reps.ints : ∀ {ns : List Int}, Reps K W (ns.map D.int) (ns.map V.int)
  | [] => rfl
  | n :: ns => ⟨_, _, rfl, rfl, Reps.ints⟩
theorem Reps.of_ints : ∀ {ns : List Int} {vs : List V}, Reps K W (ns.map D.int) vs → vs = ns.map V.int
  | [], _, h => h
  | n :: ns, _, ⟨v, r, h1, h2, h3⟩ => by subst h1; rw [show v = V.int n from h2, Reps.of_ints h3]; rfl
theorem Reps.of_strs : ∀ {ns : List Str} {vs : List V}, Reps K W (ns.map D.str) vs → vs = ns.map V.str
  | [], _, h => h
  | n :: ns, _, ⟨v, r, h1, h2, h3⟩ => by subst h1; rw [show v = V.str n from h2, Reps.of_strs h3]; rfl
theorem Reps.strs : ∀ {ns : List Str}, Reps K W (ns.map D.str) (ns.map V.str)
  | [] => rfl
  | n :: ns => ⟨_, _, rfl, rfl, Reps.strs⟩
theorem RepF.length : ∀ {ds : List (Str × D)} {vs : List (Str × V)}, RepF K W ds vs → vs.length = ds.length
  | [], _, h => by cases h; rfl
  | (_, _) :: _, _, ⟨v, r, h1, _, h3⟩ => by subst h1; simp [RepF.length h3]
theorem RepF.look {f : Str} : ∀ {ds : List (Str × D)} {vs : List (Str × V)} {d : D}, RepF K W ds vs → ds.lookup f = some d → ∃ v, vs.lookup f = some v ∧ Rep K W d v
  | [], _, _, _, e => by simp at e
  | (x, d0) :: ds, _, d, ⟨v, r, h1, h2, h3⟩, e => by
    subst h1
    rw [List.lookup_cons] at e ⊢
    cases hx : f == x with
    | true => rw [hx] at e; cases e; exact ⟨v, rfl, h2⟩
    | false => rw [hx] at e; exact RepF.look h3 e
theorem RepF.look0 {f : Str} : ∀ {ds : List (Str × D)} {vs : List (Str × V)}, RepF K W ds vs → ds.lookup f = none → vs.lookup f = none
  | [], _, h, _ => by cases h; rfl
  | (x, d0) :: ds, _, ⟨v, r, h1, h2, h3⟩, e => by
    subst h1
    rw [List.lookup_cons] at e ⊢
    cases hx : f == x with
    | true => rw [hx] at e; cases e
    | false => rw [hx] at e; exact RepF.look0 h3 e
/-- attributes stored -/
def putD (f : Str) (d : D) : List (Str × D) → List (Str × D)
  | [] => [(f, d)]
  | (x, y) :: r => if x = f then (x, d) :: r else (x, y) :: putD f d r
theorem RepF.put {f : Str} {d : D} {v : V} (q : Rep K W d v) : ∀ {ds : List (Str × D)} {vs : List (Str × V)}, RepF K W ds vs → RepF K W (putD f d ds) (putF f v vs)
  | [], _, h => by cases h; exact ⟨v, [], rfl, q, rfl⟩
  | (x, d0) :: ds, _, ⟨v0, r, h1, h2, h3⟩ => by
    subst h1
    unfold putD putF
    by_cases e : x = f
    · rw [if_pos e, if_pos e]; exact ⟨v, r, rfl, q, h3⟩
    · rw [if_neg e, if_neg e]; exact ⟨v0, _, rfl, h2, RepF.put q h3⟩

/-! ### a cell is laid -/
def Wd.laid (W : Wd) (p : Addr) (c : Cell) (H' : Hp) : Wd := ⟨fun n => if n = W.S.length then some p else W.φ n, W.S ++ [some c], H'⟩
theorem Live.laid {p : Addr} {c : Cell} {H' : Hp} {a : Addr} (h : Live (W.laid p c H') a) : Live W a ∨ a = p := by
  obtain ⟨n, c', h1, h2⟩ := h
  have h2 : (if n = W.S.length then some p else W.φ n) = some a := h2
  by_cases e : n = W.S.length
  · rw [if_pos e] at h2; cases h2; exact .inr rfl
  · rw [if_neg e] at h2
    have h1 : (W.S ++ [some c])[n]? = some (some c') := h1
    have hl : n < (W.S ++ [some c]).length := (List.getElem?_eq_some_iff.mp h1).1
    rw [List.length_append, List.length_singleton] at hl
    rw [List.getElem?_append_left (by omega)] at h1
    exact .inl ⟨n, c', h1, h2⟩
theorem Ext.laid {p : Addr} {c : Cell} {H' : Hp} (hp : W.H p = none) (hs : Same W.H H') : Ext W (W.laid p c H') := by
  refine ⟨by show W.S.length ≤ (W.S ++ [some c]).length; simp, fun n h => ?_, fun a o h nl => ⟨hs a o h, fun l => ?_⟩⟩
  · show (if n = W.S.length then some p else W.φ n) = W.φ n
    rw [if_neg (by omega)]
  · rcases l.laid with l | e
    · exact nl l
    · rw [e, hp] at h; cases h
theorem CellAt.mono {a : Addr} (s : Sim K ca W) (e : Ext W W') (h : W'.H a = W.H a) : ∀ {c : Cell}, CellAt K ca W a c → CellAt K ca W' a c
  | .lst _, ⟨vs, h1, h2⟩ => ⟨vs, h.trans h1, h2.mono s e⟩
  | .ins _ _, ⟨dx, fv, h1, h2⟩ => ⟨dx, fv, h.trans h1, h2.mono s e⟩
theorem CellAt.some {a : Addr} : ∀ {c : Cell}, CellAt K ca W a c → ∃ o, W.H a = some o
  | .lst _, ⟨_, h1, _⟩ => ⟨_, h1⟩
  | .ins _ _, ⟨_, _, h1, _⟩ => ⟨_, h1⟩
theorem Sim.laid {p : Addr} {c : Cell} {H' : Hp} (s : Sim K ca W) (hp : W.H p = none) (hs : Same W.H H') (hc : CellAt K ca (W.laid p c H') p c) : Sim K ca (W.laid p c H') := by
  have e := Ext.laid (c := c) hp hs
  have old : ∀ {n : Nat} {c' : Cell}, (W.S ++ [some c])[n]? = some (some c') → n ≠ W.S.length → W.S[n]? = some (some c') := fun {n c'} h ne => by
    have hl := (List.getElem?_eq_some_iff.mp h).1
    rw [List.length_append, List.length_singleton] at hl
    rwa [List.getElem?_append_left (by omega)] at h
  have ad : ∀ {n : Nat} {c' : Cell} {a : Addr}, W.S[n]? = some (some c') → W.φ n = some a → a ≠ p := fun {n c' a} h1 h2 q => by
    obtain ⟨a', h3, h4⟩ := s.at_ n c' h1
    rw [h2] at h3; cases h3
    obtain ⟨o, h5⟩ := h4.some
    rw [q, hp] at h5; cases h5
  refine ⟨fun n c' h => ?_, fun n m c1 c2 a h1 h2 h3 h4 => ?_⟩
  · by_cases q : n = W.S.length
    · refine ⟨p, if_pos q, ?_⟩
      have h : (W.S ++ [some c])[n]? = some (some c') := h
      rw [q, List.getElem?_append_right (Nat.le_refl _)] at h
      simp at h
      subst h
      exact hc
    · have h' := old h q
      obtain ⟨a, h1, h2⟩ := s.at_ n c' h'
      obtain ⟨o, h3⟩ := h2.some
      refine ⟨a, ?_, h2.mono s e (by rw [h3]; exact hs a o h3)⟩
      show (if n = W.S.length then some p else W.φ n) = some a
      rw [if_neg q]; exact h1
  · have h3 : (if n = W.S.length then some p else W.φ n) = some a := h3
    have h4 : (if m = W.S.length then some p else W.φ m) = some a := h4
    by_cases q1 : n = W.S.length
    · by_cases q2 : m = W.S.length
      · rw [q1, q2]
      · rw [if_pos q1] at h3; rw [if_neg q2] at h4; cases h3
        exact absurd rfl (ad (old h2 q2) h4)
    · by_cases q2 : m = W.S.length
      · rw [if_neg q1] at h3; rw [if_pos q2] at h4; cases h4
        exact absurd rfl (ad (old h1 q1) h3)
      · rw [if_neg q1] at h3; rw [if_neg q2] at h4
        exact s.inj n m c1 c2 a (old h1 q1) (old h2 q2) h3 h4
theorem Rep.laid {p : Addr} {c : Cell} {H' : Hp} : Rep K (W.laid p c H') (.ref W.S.length) (.ref p) := ⟨p, rfl, by show W.S.length < (W.S ++ [some c]).length; simp, if_pos rfl⟩
theorem same_upd {H : Hp} {p : Addr} {o : HO} (hp : H p = none) : Same H (upd H p o) := fun b u h => by rw [upd_ne (ne_of_none h hp)]; exact h
/-- a new list -/
theorem new_list {p : Addr} {ds : List D} {vs : List V} (s : Sim K ca W) (hp : W.H p = none) (r : Reps K W ds vs) :
    Ext W (W.laid p (.lst ds) (upd W.H p (.lst vs))) ∧ Sim K ca (W.laid p (.lst ds) (upd W.H p (.lst vs))) := by
  have e := Ext.laid (c := .lst ds) hp (same_upd (o := .lst vs) hp)
  exact ⟨e, s.laid hp (same_upd hp) ⟨vs, upd_same, r.mono s e⟩⟩
/-- a tuple, a thing that is no cell: the heap grows -/
def Wd.heap (W : Wd) (H' : Hp) : Wd := ⟨W.φ, W.S, H'⟩
theorem Ext.heap {H' : Hp} (hs : Same W.H H') : Ext W (W.heap H') := ⟨Nat.le_refl _, fun _ _ => rfl, fun a o h n => ⟨hs a o h, n⟩⟩
theorem Sim.heap {H' : Hp} (s : Sim K ca W) (hs : Same W.H H') : Sim K ca (W.heap H') := by
  refine ⟨fun n c h => ?_, s.inj⟩
  obtain ⟨a, h1, h2⟩ := s.at_ n c h
  obtain ⟨o, h3⟩ := h2.some
  exact ⟨a, h1, h2.mono s (Ext.heap hs) (by rw [h3]; exact hs a o h3)⟩
theorem new_tup {p : Addr} {ds : List D} {vs : List V} (s : Sim K ca W) (hp : W.H p = none) (r : Reps K W ds vs) :
    Rep K (W.heap (upd W.H p (.tup vs))) (.tup ds) (.ref p) := ⟨p, vs, rfl, .inl upd_same, r.mono s (Ext.heap (same_upd hp))⟩

/-! ### a cell is written -/
def Wd.put (W : Wd) (n : Nat) (c : Cell) (H' : Hp) : Wd := ⟨W.φ, W.S.set n (some c), H'⟩
section
variable {n : Nat} {c0 c : Cell} {a : Addr} {H' : Hp}
theorem Live.put (h0 : W.S[n]? = some (some c0)) (hf : W.φ n = some a) {b : Addr} (h : Live (W.put n c H') b) : Live W b := by
  obtain ⟨m, c', h1, h2⟩ := h
  have h1 : (W.S.set n (some c))[m]? = some (some c') := h1
  by_cases e : m = n
  · subst e; exact ⟨m, c0, h0, h2⟩
  · rw [List.getElem?_set_ne (Ne.symm e)] at h1; exact ⟨m, c', h1, h2⟩
theorem Ext.put (h0 : W.S[n]? = some (some c0)) (hf : W.φ n = some a) (hk : ∀ b, b ≠ a → H' b = W.H b) : Ext W (W.put n c H') := by
  refine ⟨by show W.S.length ≤ (W.S.set n (some c)).length; simp, fun _ _ => rfl, fun b o h nl => ⟨?_, fun l => nl (l.put h0 hf)⟩⟩
  show H' b = some o
  rw [hk b fun q => nl ⟨n, c0, h0, by rw [q]; exact hf⟩]
  exact h
theorem Sim.put (s : Sim K ca W) (h0 : W.S[n]? = some (some c0)) (hf : W.φ n = some a) (hk : ∀ b, b ≠ a → H' b = W.H b) (hc : CellAt K ca (W.put n c H') a c) : Sim K ca (W.put n c H') := by
  have e := Ext.put (c := c) h0 hf hk
  have old : ∀ {m : Nat} {c' : Cell}, (W.S.set n (some c))[m]? = some (some c') → m ≠ n → W.S[m]? = some (some c') := fun h ne => by rwa [List.getElem?_set_ne (Ne.symm ne)] at h
  have any : ∀ {m : Nat} {c' : Cell}, (W.S.set n (some c))[m]? = some (some c') → ∃ c'', W.S[m]? = some (some c'') := fun {m c'} h => by
    by_cases q : m = n
    · subst q; exact ⟨c0, h0⟩
    · exact ⟨c', old h q⟩
  refine ⟨fun m c' h => ?_, fun m k c1 c2 b h1 h2 h3 h4 => ?_⟩
  · by_cases q : m = n
    · subst q
      have h : (W.S.set m (some c))[m]? = some (some c') := h
      rw [List.getElem?_set_self (List.getElem?_eq_some_iff.mp h0).1] at h
      cases h
      exact ⟨a, hf, hc⟩
    · obtain ⟨b, h1, h2⟩ := s.at_ m c' (old h q)
      refine ⟨b, h1, h2.mono s e (hk b fun z => q ?_)⟩
      subst z
      exact s.inj m n c' c0 b (old h q) h0 h1 hf
  · obtain ⟨_, g1⟩ := any h1
    obtain ⟨_, g2⟩ := any h2
    exact s.inj m k _ _ b g1 g2 h3 h4
end
/-- where the cell lies -/
theorem Sim.lst_at (s : Sim K ca W) {n : Nat} {ds : List D} {v : V} (h : W.S[n]? = some (some (.lst ds))) (r : Rep K W (.ref n) v) : ∃ a vs, v = .ref a ∧ W.φ n = some a ∧ W.H a = some (.lst vs) ∧ Reps K W ds vs := by
  obtain ⟨a, h1, h2, h3⟩ := r
  obtain ⟨a', g1, vs, g2, g3⟩ := s.at_ n _ h
  rw [h3] at g1; cases g1
  exact ⟨a, vs, h1, h3, g2, g3⟩
theorem Sim.ins_at (s : Sim K ca W) {n : Nat} {C : Str} {fs : List (Str × D)} {v : V} (h : W.S[n]? = some (some (.ins C fs))) (r : Rep K W (.ref n) v) : ∃ a dx fv, v = .ref a ∧ W.φ n = some a ∧ W.H a = some (.ins (ca C) dx fv) ∧ RepF K W fs fv := by
  obtain ⟨a, h1, h2, h3⟩ := r
  obtain ⟨a', g1, dx, fv, g2, g3⟩ := s.at_ n _ h
  rw [h3] at g1; cases g1
  exact ⟨a, dx, fv, h1, h3, g2, g3⟩
/-- a list cell holds another list -/
theorem put_list {n : Nat} {ds0 ds : List D} {a : Addr} {vs : List V} (s : Sim K ca W) (h0 : W.S[n]? = some (some (.lst ds0))) (hf : W.φ n = some a) (r : Reps K W ds vs) :
    Ext W (W.put n (.lst ds) (upd W.H a (.lst vs))) ∧ Sim K ca (W.put n (.lst ds) (upd W.H a (.lst vs))) := by
  have hk : ∀ b, b ≠ a → upd W.H a (.lst vs) b = W.H b := fun b h => upd_ne h
  have e := Ext.put (c := .lst ds) h0 hf hk
  exact ⟨e, s.put h0 hf hk ⟨vs, upd_same, r.mono s e⟩⟩
theorem put_ins {n : Nat} {C : Str} {fs0 fs : List (Str × D)} {a dx : Addr} {fv : List (Str × V)} (s : Sim K ca W) (h0 : W.S[n]? = some (some (.ins C fs0))) (hf : W.φ n = some a) (r : RepF K W fs fv) :
    Ext W (W.put n (.ins C fs) (upd W.H a (.ins (ca C) dx fv))) ∧ Sim K ca (W.put n (.ins C fs) (upd W.H a (.ins (ca C) dx fv))) := by
  have hk : ∀ b, b ≠ a → upd W.H a (.ins (ca C) dx fv) b = W.H b := fun b h => upd_ne h
  have e := Ext.put (c := .ins C fs) h0 hf hk
  exact ⟨e, s.put h0 hf hk ⟨dx, fv, upd_same, r.mono s e⟩⟩
end

/-! ### results -/
inductive Res (α : Type) where
  | ok (a : α) (S : Store) | exc (c : Str) (fs : List (Str × D)) (S : Store) | fail
def Res.bind {α β : Type} (r : Res α) (k : α → Store → Res β) : Res β := match r with
  | .ok a S => k a S
  | .exc c fs S => .exc c fs S
  | .fail => .fail
/-- the context of a judgement: the written part, the classes' addresses, what is wanted of an exception -/
structure Jd where
  K : PySem.W.Frag
  ca : Str → Addr
  E : XK
/-- an exception's way -/
def PostX (J : Jd) (W : Wd) (c : Str) (fs : List (Str × D)) (S : Store) : Prop :=
  ∀ (W' : Wd) (dx : Addr) (fv : List (Str × V)), W'.S = S → Ext W W' → Sim J.K J.ca W' → W'.H dx = some (.xd fv) → RepF J.K W' fs fv → J.E (.ref (J.ca c)) (some dx) W'.H
/-- what follows a result; R: how what is given stands for what comes -/
def PostR (J : Jd) (W : Wd) {α β : Type} (R : Wd → α → β → Prop) (r : Res α) (Q : β → Hp → Prop) : Prop := match r with
  | .ok a S => ∀ (W' : Wd) (b : β), W'.S = S → Ext W W' → Sim J.K J.ca W' → R W' a b → Q b W'.H
  | .exc c fs S => PostX J W c fs S
  | .fail => False
abbrev RD (J : Jd) : Wd → D → V → Prop := fun W d v => Rep J.K W d v
abbrev RL (J : Jd) : Wd → List D → List V → Prop := fun W d v => Reps J.K W d v
abbrev RB : Wd → Bool → Bool → Prop := fun _ a b => a = b
abbrev Post (J : Jd) (W : Wd) (r : Res D) (Q : VK) : Prop := PostR J W (RD J) r Q
section
variable {J : Jd} {W W1 : Wd} {α β γ δ : Type} {R : Wd → α → β → Prop} {R' : Wd → γ → δ → Prop}
theorem PostX.ext {c : Str} {fs : List (Str × D)} {S : Store} (e : Ext W W1) (h : PostX J W c fs S) : PostX J W1 c fs S := fun W' dx fv h1 h2 => h W' dx fv h1 (e.trans h2)
theorem PostR.ext {r : Res α} {Q : β → Hp → Prop} (e : Ext W W1) (h : PostR J W R r Q) : PostR J W1 R r Q := by
  cases r with
  | ok d S => exact fun W' v h1 h2 => h W' v h1 (e.trans h2)
  | exc c fs S => exact PostX.ext e h
  | fail => exact h
theorem PostR.imp {r : Res α} {Q Q' : β → Hp → Prop} (h : PostR J W R r Q) (f : ∀ v H, Q v H → Q' v H) : PostR J W R r Q' := by
  cases r with
  | ok d S => exact fun W' v h1 h2 h3 h4 => f _ _ (h W' v h1 h2 h3 h4)
  | exc c fs S => exact h
  | fail => exact h
/-- one step, then the rest -/
theorem PostR.bind {r : Res α} {k : α → Store → Res γ} {Q : δ → Hp → Prop} (h : PostR J W R' (r.bind k) Q) :
    PostR J W R r fun v H' => ∃ W' d, W'.H = H' ∧ Ext W W' ∧ Sim J.K J.ca W' ∧ R W' d v ∧ PostR J W' R' (k d W'.S) Q := by
  cases r with
  | ok d S => intro W' v h1 h2 h3 h4; subst h1; exact ⟨W', d, rfl, h2, h3, h4, PostR.ext h2 h⟩
  | exc c fs S => exact h
  | fail => exact h
/-- a value, nothing done -/
theorem PostR.val {a : α} {b : β} {Q : β → Hp → Prop} (s : Sim J.K J.ca W) (r : R W a b) (h : PostR J W R (.ok a W.S) Q) : Q b W.H := h W b rfl (Ext.refl W) s r
end
end E

set_option linter.all false
set_option maxRecDepth 100000
set_option maxHeartbeats 4000000
/- Evaluator E, part C: the operations on data, each over the layer's rule. -/
namespace E
open PySem PySem.Spec PyProof.Rows L2
/-- the items of a list: a cell's, a frozen one's -/
def cellL (S : Store) (n : Nat) : Option (List D) := match S[n]? with
  | some (some (.lst ds)) => some ds
  | _ => none
def listOf (S : Store) : D → Option (List D)
  | .lst ds => some ds
  | .ref n => cellL S n
  | _ => none
/-- .. to be read only: the script too -/
def seqL (S : Store) : D → Option (List D)
  | .scr ns => some (ns.map D.int)
  | d => listOf S d
section
variable {J : Jd} {W W' : Wd}
theorem listOf_at (s : Sim J.K J.ca W) {d : D} {ds : List D} {x : V} (h : listOf W.S d = some ds) (r : Rep J.K W d x) : ∃ a vs, x = .ref a ∧ W.H a = some (.lst vs) ∧ Reps J.K W ds vs := by
  cases d with
  | lst es =>
    cases h
    obtain ⟨a, vs, h1, h2, _, h3⟩ := r
    exact ⟨a, vs, h1, h2, h3⟩
  | ref n =>
    have h : cellL W.S n = some ds := h
    unfold cellL at h
    split at h
    · rename_i es e
      cases h
      obtain ⟨a, vs, h1, _, h2, h3⟩ := s.lst_at e r
      exact ⟨a, vs, h1, h2, h3⟩
    · cases h
  | _ => cases h
theorem seqL_at (s : Sim J.K J.ca W) {d : D} {ds : List D} {x : V} (h : seqL W.S d = some ds) (r : Rep J.K W d x) : ∃ a vs, x = .ref a ∧ SqL J.K W.H a vs ∧ Reps J.K W ds vs := by
  cases d with
  | scr ns =>
    cases h
    obtain ⟨a, h1, h2⟩ := r
    exact ⟨a, _, h1, h2.imp (fun q => q.1) id, Reps.ints⟩
  | _ =>
    have q := fun h => listOf_at (ds := ds) s h r
    obtain ⟨a, vs, h1, h2, h3⟩ := q h
    exact ⟨a, vs, h1, SqL.of h2, h3⟩
theorem tup_at {ds : List D} {x : V} (r : Rep J.K W (.tup ds) x) : ∃ a vs, x = .ref a ∧ SqT J.K W.H a vs ∧ Reps J.K W ds vs := by
  obtain ⟨a, vs, h1, h2, h3⟩ := r
  exact ⟨a, vs, h1, h2.imp (fun q => Rd.of q) id, h3⟩
/-- a tuple made -/
theorem post_tup {ds : List D} {vs : List V} {Q : VK} (s : Sim J.K J.ca W) (r : Reps J.K W ds vs) (h : Post J W (.ok (.tup ds) W.S) Q) : ∀ p, W.H p = none → Q (.ref p) (upd W.H p (.tup vs)) := fun p hp =>
  h (W.heap (upd W.H p (.tup vs))) (.ref p) rfl (Ext.heap (same_upd hp)) (s.heap (same_upd hp)) (new_tup s hp r)
/-- a list made -/
theorem post_list {ds : List D} {vs : List V} {Q : VK} (s : Sim J.K J.ca W) (r : Reps J.K W ds vs) (h : Post J W (.ok (.ref W.S.length) (W.S ++ [some (.lst ds)])) Q) : ∀ p, W.H p = none → Q (.ref p) (upd W.H p (.lst vs)) := fun p hp =>
  let ⟨e, s'⟩ := new_list s hp r
  h (W.laid p (.lst ds) (upd W.H p (.lst vs))) (.ref p) rfl e s' Rep.laid
end
/-- operations by data -/
abbrev F2 := D → D → Store → Res D
def rD (J : Jd) (f : F2) : R2 := fun x y H Q => ∃ W d e, W.H = H ∧ Sim J.K J.ca W ∧ Rep J.K W d x ∧ Rep J.K W e y ∧ Post J W (f d e W.S) Q
def newL (ds : List D) (S : Store) : Res D := .ok (.ref S.length) (S ++ [some (.lst ds)])
def addD : F2 := fun d e S => match d, e with
  | .int i, .int j => .ok (.int (i + j)) S
  | .str a, .str b => if a.length + b.length ≤ sizeLine then .ok (.str (a ++ b)) S else .fail
  | .tup a, .tup b => if a.length + b.length ≤ sizeLine then .ok (.tup (a ++ b)) S else .fail
  | d, e => match listOf S d, listOf S e with
    | some a, some b => if a.length + b.length ≤ sizeLine then newL (a ++ b) S else .fail
    | _, _ => .fail
def iiD (C : Int → Int → Prop) [∀ i j, Decidable (C i j)] (g : Int → Int → D) : F2 := fun d e S => match d, e with
  | .int i, .int j => if C i j then .ok (g i j) S else .fail
  | _, _ => .fail
instance : ∀ i j, Decidable (CMul i j) := fun i j => by unfold CMul; infer_instance
instance : ∀ i j, Decidable (CDivN i j) := fun i j => by unfold CDivN; infer_instance
instance : ∀ i j, Decidable (CPow i j) := fun i j => by unfold CPow; infer_instance
def cTrue : Int → Int → Prop := fun _ _ => True
instance : ∀ i j, Decidable (cTrue i j) := fun i j => by unfold cTrue; infer_instance
def cNz : Int → Int → Prop := fun _ j => j ≠ 0
instance : ∀ i j, Decidable (cNz i j) := fun i j => by unfold cNz; infer_instance
def subD : F2 := iiD cTrue fun i j => .int (i - j)
def mulD : F2 := iiD CMul fun i j => .int (i * j)
def divD : F2 := iiD CDivN fun i j => .int (i.fdiv j)
def modD : F2 := iiD cNz fun i j => .int (i.fmod j)
def powD : F2 := iiD CPow fun i j => .int (i ^ j.toNat)
def ltD : F2 := iiD cTrue fun i j => .bl (decide (i < j))
def leD : F2 := iiD cTrue fun i j => .bl (decide (i ≤ j))
def gtD : F2 := iiD cTrue fun i j => .bl (decide (j < i))
def geD : F2 := iiD cTrue fun i j => .bl (decide (j ≤ i))
def binD : Operator → F2
  | .Add => addD
  | .Sub => subD
  | .Mult => mulD
  | .FloorDiv => divD
  | .Mod => modD
  | .Pow => powD
  | _ => fun _ _ _ => .fail
/-- == of plain values of kinds that == tells apart -/
def eqS : D → D → Option Bool
  | .non, .non => some true
  | .non, .int _ => some false | .int _, .non => some false
  | .non, .bl _ => some false | .bl _, .non => some false
  | .non, .str _ => some false | .str _, .non => some false
  | .int i, .int j => some (decide (i = j))
  | .bl i, .bl j => some (decide (i = j))
  | .str i, .str j => some (decide (i = j))
  | .int _, .str _ => some false | .str _, .int _ => some false
  | .bl _, .str _ => some false | .str _, .bl _ => some false
  | _, _ => none
def eqD (neg : Bool) : F2 := fun d e S => match eqS d e with
  | some b => .ok (.bl (if neg then !b else b)) S
  | none => .fail
def flatD : D → Option V
  | .non => some .non
  | .bl b => some (.bl b)
  | .int i => some (.int i)
  | .str s => some (.str s)
  | _ => none
def flatsD : List D → Option (List V)
  | [] => some []
  | d :: ds => match flatD d, flatsD ds with
    | some v, some vs => some (v :: vs)
    | _, _ => none
def inD (neg : Bool) : F2 := fun d e S => match d, e with
  | .str ⟨c⟩, .str z => if c.size = 1 then .ok (.bl (if neg then !decide (c.getD 0 0 ∈ z.cps.toList) else decide (c.getD 0 0 ∈ z.cps.toList))) S else .fail
  | d, .tup es => match flatD d, flatsD es with
    | some x, some xs => .ok (.bl (if neg then !inV x xs else inV x xs)) S
    | _, _ => .fail
  | d, e => match flatD d, (seqL S e).bind flatsD with
    | some x, some xs => .ok (.bl (if neg then !inV x xs else inV x xs)) S
    | _, _ => .fail
def isD (neg : Bool) : F2 := fun d e S => match e with
  | .non => (match d with
    | .non => .ok (.bl (!neg)) S
    | _ => .ok (.bl neg) S)
  | _ => .fail
def cmpD : CmpOp → F2
  | .Eq => eqD false
  | .NotEq => eqD true
  | .Lt => ltD
  | .LtE => leD
  | .Gt => gtD
  | .GtE => geD
  | .Is => isD false
  | .IsNot => isD true
  | .In => inD false
  | .NotIn => inD true
section
variable {X : Cx} {J : Jd} (hK : J.K = X.K)
include hK
theorem Rep.int {W : Wd} {i : Int} {v : V} (h : Rep J.K W (.int i) v) : v = .int i := h
theorem ok_add : OpR X (binaryOp .Add) (rD J addD) := by
  intro pins s σ H x y v u Q I rx ry ⟨W, d, e, hH, sm, rd, re, p⟩
  subst hH
  unfold addD at p
  split at p
  · cases (show x = _ from rd); cases (show y = _ from re)
    exact op_add pins s σ _ _ _ v u Q I rx ry ⟨_, _, rfl, rfl, p.val sm rfl⟩
  · cases (show x = _ from rd); cases (show y = _ from re)
    split at p
    · rename_i hz
      exact op_add_str pins s σ _ _ _ v u Q I rx ry ⟨_, _, rfl, rfl, hz, p.val sm rfl⟩
    · exact p.elim
  · split at p
    · rename_i ds es hz
      obtain ⟨a, vs, rfl, ha, ra⟩ := tup_at rd
      obtain ⟨b, us, rfl, hb, rb⟩ := tup_at re
      rw [hK] at ha hb
      refine op_catA pins s σ _ _ _ v u Q I rx ry ⟨a, b, vs, us, rfl, rfl, ha, hb, by rw [ra.length, rb.length]; exact hz, fun e => ?_, fun _ e => ?_, fun _ _ => post_tup sm (ra.append rb) p⟩
      · have hn : ds = [] := List.eq_nil_of_length_eq_zero (by rw [← ra.length, e]; rfl)
        subst hn
        exact p.val sm re
      · have hn : es = [] := List.eq_nil_of_length_eq_zero (by rw [← rb.length, e]; rfl)
        subst hn
        rw [List.append_nil] at p
        exact p.val sm rd
    · exact p.elim
  · split at p
    · rename_i ds es h1 h2
      split at p
      · rename_i hz
        obtain ⟨a, vs, rfl, ha, ra⟩ := listOf_at sm h1 rd
        obtain ⟨b, us, rfl, hb, rb⟩ := listOf_at sm h2 re
        exact op_cat pins s σ _ _ _ v u Q I rx ry ⟨a, b, vs, us, rfl, rfl, ha, hb, by rw [ra.length, rb.length]; exact hz, post_list sm (ra.append rb) p⟩
      · exact p.elim
    · exact p.elim
omit hK in
theorem ok_ii {f : Value → Value → Sem Value} {C C' : Int → Int → Prop} [∀ i j, Decidable (C' i j)] {g : Int → Int → D} {gv : Int → Int → V} (h : OpR X f (rI C gv)) (hc : ∀ i j, C' i j → C i j) (hg : ∀ W i j, Rep J.K W (g i j) (gv i j)) : OpR X f (rD J (iiD C' g)) := by
  intro pins s σ H x y v u Q I rx ry ⟨W, d, e, hH, sm, rd, re, p⟩
  subst hH
  unfold iiD at p
  split at p
  · cases (show x = _ from rd); cases (show y = _ from re)
    split at p
    · rename_i i j c
      exact h pins s σ _ _ _ v u Q I rx ry ⟨_, _, rfl, rfl, hc _ _ c, p.val sm (hg _ _ _)⟩
    · exact p.elim
  · exact p.elim
omit hK in
theorem ok_ii0 {f : Value → Value → Sem Value} {g : Int → Int → D} {gv : Int → Int → V} (h : OpR X f (rI0 gv)) (hg : ∀ W i j, Rep J.K W (g i j) (gv i j)) : OpR X f (rD J (iiD cTrue g)) :=
  ok_ii (C := fun _ _ => True) (fun pins s σ H x y v u Q I rx ry ⟨i, j, h1, h2, _, q⟩ => h pins s σ H x y v u Q I rx ry ⟨i, j, h1, h2, q⟩) (fun _ _ _ => trivial) hg
theorem ok_bin (op : Operator) : OpR X (binaryOp op) (rD J (binD op)) := by
  cases op with
  | Add => exact ok_add hK
  | Sub => exact ok_ii0 op_sub fun _ _ _ => rfl
  | Mult => exact ok_ii op_mul (fun _ _ h => h) fun _ _ _ => rfl
  | FloorDiv => exact ok_ii op_fdivN (fun _ _ h => h) fun _ _ _ => rfl
  | Mod => exact ok_ii op_modN (fun _ _ h => h) fun _ _ _ => rfl
  | Pow => exact ok_ii op_pow (fun _ _ h => h) fun _ _ _ => rfl
  | _ => exact fun pins s σ H x y v u Q I rx ry ⟨W, d, e, hH, sm, rd, re, p⟩ => p.elim
omit hK in
theorem eqS_sc {d e : D} {b : Bool} {W : Wd} {x y : V} (h : eqS d e = some b) (rd : Rep J.K W d x) (re : Rep J.K W e y) : scal x y = true ∧ decide (x = y) = b := by
  cases d <;> cases e <;> first
    | (cases (show (none : Option Bool) = some b from h))
    | (cases (show x = _ from rd); cases (show y = _ from re); refine ⟨rfl, ?_⟩; have h := Option.some.inj h; rw [← h]; simp)
omit hK in
theorem ok_eq : OpR X (compareOp .Eq) (rD J (eqD false)) := by
  intro pins s σ H x y v u Q I rx ry ⟨W, d, e, hH, sm, rd, re, p⟩
  subst hH
  unfold eqD at p
  split at p
  · rename_i b hb
    obtain ⟨h1, h2⟩ := eqS_sc hb rd re
    exact op_eq pins s σ _ _ _ v u Q I rx ry ⟨h1, p.val sm (by rw [h2]; rfl)⟩
  · exact p.elim
omit hK in
theorem ok_ne : OpR X (compareOp .NotEq) (rD J (eqD true)) := by
  intro pins s σ H x y v u Q I rx ry ⟨W, d, e, hH, sm, rd, re, p⟩
  subst hH
  unfold eqD at p
  split at p
  · rename_i b hb
    obtain ⟨h1, h2⟩ := eqS_sc hb rd re
    exact op_ne pins s σ _ _ _ v u Q I rx ry ⟨h1, p.val sm (by rw [h2]; rfl)⟩
  · exact p.elim
omit hK in
theorem flatD_at {d : D} {v x : V} {W : Wd} (h : flatD d = some v) (r : Rep J.K W d x) : x = v ∧ flatV x = true := by
  cases d <;> first | (cases h; cases (show x = _ from r); exact ⟨rfl, rfl⟩) | cases h
omit hK in
theorem flatsD_at {W : Wd} : ∀ {ds : List D} {vs xs : List V}, flatsD ds = some vs → Reps J.K W ds xs → xs = vs ∧ xs.all flatV = true
  | [], _, _, h, r => by cases h; cases r; exact ⟨rfl, rfl⟩
  | d :: ds, _, _, h, ⟨v, r, h1, h2, h3⟩ => by
    subst h1
    unfold flatsD at h
    split at h
    · rename_i v' vs' e1 e2
      cases h
      obtain ⟨q1, q2⟩ := flatD_at e1 h2
      obtain ⟨q3, q4⟩ := flatsD_at e2 h3
      subst q1 q3
      exact ⟨rfl, by rw [List.all_cons, q2, q4]; rfl⟩
    · cases h
theorem ok_in (neg : Bool) : OpR X (compareOp (if neg then .NotIn else .In)) (rD J (inD neg)) := by
  have seq : OpR X (compareOp (if neg then .NotIn else .In)) (rIn X.K neg) := by cases neg; exact op_in_seq; exact op_notIn_seq
  intro pins s σ H x y v u Q I rx ry ⟨W, d, e, hH, sm, rd, re, p⟩
  subst hH
  unfold inD at p
  split at p
  · rename_i c z
    cases (show x = _ from rd); cases (show y = _ from re)
    split at p
    · rename_i h1
      obtain ⟨k, hk⟩ : ∃ k, c = #[k] := by
        obtain ⟨l⟩ := c
        match l, h1 with
        | [k], _ => exact ⟨k, rfl⟩
      subst hk
      cases neg
      · exact op_in_sign pins s σ _ _ _ v u Q I rx ry ⟨k, z, rfl, rfl, p.val sm rfl⟩
      · exact op_notIn_sign pins s σ _ _ _ v u Q I rx ry ⟨k, z, rfl, rfl, p.val sm rfl⟩
    · exact p.elim
  · split at p
    · rename_i es x' xs h1 h2
      obtain ⟨a, vs, rfl, ha, ra⟩ := tup_at re
      rw [hK] at ha
      obtain ⟨q1, q2⟩ := flatD_at h1 rd
      obtain ⟨q3, q4⟩ := flatsD_at h2 ra
      subst q1 q3
      exact seq pins s σ _ _ _ v u Q I rx ry ⟨a, _, rfl, .inr ha, q2, q4, p.val sm rfl⟩
    · exact p.elim
  · split at p
    · rename_i x' xs h1 h2
      obtain ⟨es, h3, h4⟩ := Option.bind_eq_some_iff.mp h2
      obtain ⟨a, vs, rfl, ha, ra⟩ := seqL_at sm h3 re
      rw [hK] at ha
      obtain ⟨q1, q2⟩ := flatD_at h1 rd
      obtain ⟨q3, q4⟩ := flatsD_at h4 ra
      subst q1 q3
      exact seq pins s σ _ _ _ v u Q I rx ry ⟨a, _, rfl, .inl ha, q2, q4, p.val sm rfl⟩
    · exact p.elim
omit hK in
theorem non_iff {d : D} {W : Wd} {x : V} (r : Rep J.K W d x) : decide (x = .non) = (match d with | .non => true | _ => false) := by
  cases d with
  | non => cases (show x = _ from r); rfl
  | bl _ => cases (show x = _ from r); rfl
  | int _ => cases (show x = _ from r); rfl
  | str _ => cases (show x = _ from r); rfl
  | tup _ => obtain ⟨a, _, h, _⟩ := r; subst h; rfl
  | lst _ => obtain ⟨a, _, h, _⟩ := r; subst h; rfl
  | scr _ => obtain ⟨a, h, _⟩ := r; subst h; rfl
  | ref _ => obtain ⟨a, h, _⟩ := r; subst h; rfl
omit hK in
theorem ok_is (neg : Bool) : OpR X (compareOp (if neg then .IsNot else .Is)) (rD J (isD neg)) := by
  intro pins s σ H x y v u Q I rx ry ⟨W, d, e, hH, sm, rd, re, p⟩
  subst hH
  cases e with
  | non =>
    cases (show y = _ from re)
    have hx := non_iff rd
    cases neg
    · refine op_isN pins s σ _ _ _ v u Q I rx ry ⟨rfl, ?_⟩
      rw [hx]
      cases d <;> exact p.val sm rfl
    · refine op_notN pins s σ _ _ _ v u Q I rx ry ⟨rfl, ?_⟩
      rw [hx]
      cases d <;> exact p.val sm rfl
  | _ => exact p.elim
theorem ok_cmp (op : CmpOp) : OpR X (compareOp op) (rD J (cmpD op)) := by
  cases op with
  | Eq => exact ok_eq
  | NotEq => exact ok_ne
  | Lt => exact ok_ii0 op_lt fun _ _ _ => rfl
  | LtE => exact ok_ii0 op_le fun _ _ _ => rfl
  | Gt => exact ok_ii0 op_gt fun _ _ _ => rfl
  | GtE => exact ok_ii0 op_ge fun _ _ _ => rfl
  | Is => exact ok_is false
  | IsNot => exact ok_is true
  | In => exact ok_in hK false
  | NotIn => exact ok_in hK true
end
end E

set_option linter.all false
set_option maxRecDepth 100000
set_option maxHeartbeats 4000000
/- Evaluator E, part D: indices, slices, built-ins, methods, truth. -/
namespace E
open PySem PySem.Spec PyProof.Rows L2
def ixD : F2 := fun d e S => match e with
  | .int i => (match d with
    | .tup ds => (match atI ds i with
      | some x => .ok x S
      | none => .fail)
    | .str z => if z.length ≤ sizeLine then (match atI z.cps.toList i with
        | some c => .ok (.str ⟨#[c]⟩) S
        | none => .fail) else .fail
    | d => (match (seqL S d).bind fun ds => atI ds i with
      | some x => .ok x S
      | none => .fail))
  | _ => .fail
def cutD {α : Type} (xs : List α) (lo hi : Option Int) : List α := (xs.drop (HT.sIx xs.length 0 lo)).take (HT.sIx xs.length xs.length hi - HT.sIx xs.length 0 lo)
def slD (d : D) (lo hi : Option Int) (S : Store) : Res D := match d with
  | .tup ds => .ok (.tup (cutD ds lo hi)) S
  | .str z => if z.length ≤ sizeLine then .ok (.str (cutS z lo hi)) S else .fail
  | d => match seqL S d with
    | some ds => newL (cutD ds lo hi) S
    | none => .fail
def intsD : List D → Option (List Int)
  | [] => some []
  | .int i :: ds => (intsD ds).map (i :: ·)
  | _ => none
def strsD : List D → Option (List Str)
  | [] => some []
  | .str i :: ds => (strsD ds).map (i :: ·)
  | _ => none
/-- built-in functions and types, called with data -/
def lenD : List D → Store → Res D
  | [.tup ds], S => .ok (.int ds.length) S
  | [.str z], S => if z.length ≤ sizeLine then .ok (.int z.length) S else .fail
  | [d], S => (match seqL S d with
    | some ds => .ok (.int ds.length) S
    | none => .fail)
  | _, _ => .fail
def absD : List D → Store → Res D
  | [.int i], S => .ok (.int (if i < 0 then -i else i)) S
  | _, _ => .fail
def sumD : List D → Store → Res D
  | [d], S => (match (seqL S d).bind intsD with
    | some ns => .ok (.int ns.sum) S
    | none => .fail)
  | _, _ => .fail
def strD : List D → Store → Res D
  | [.int i], S => if i.natAbs.log2 < 1920 then .ok (.str (Str.ofString (toString i))) S else .fail
  | _, _ => .fail
def intD : List D → Store → Res D
  | [.int i], S => .ok (.int i) S
  | [.bl b], S => .ok (.int (if b then 1 else 0)) S
  | [.str z], S => if z.length ≤ 640 then (match PySem.intText? z with
      | some n => .ok (.int n) S
      | none => .fail) else .fail
  | _, _ => .fail
def listD : List D → Store → Res D
  | [.tup ds], S => newL ds S
  | [d], S => (match seqL S d with
    | some ds => newL ds S
    | none => .fail)
  | _, _ => .fail
def tupleD : List D → Store → Res D
  | [.tup ds], S => .ok (.tup ds) S
  | [d], S => (match seqL S d with
    | some ds => .ok (.tup ds) S
    | none => .fail)
  | _, _ => .fail
/-- the name of a value's built-in type -/
def tyD (S : Store) : D → Option String
  | .non => some "NoneType"
  | .bl _ => some "bool"
  | .int _ => some "int"
  | .str _ => some "str"
  | .tup _ => some "tuple"
  | .lst _ => some "list"
  | .scr _ => some "list"
  | .ref n => (cellL S n).map fun _ => "list"
def isiD (T : String) : List D → Store → Res D
  | [d], S => (match (tyD S d).bind fun t => kitB t T with
    | some b => .ok (.bl b) S
    | none => .fail)
  | _, _ => .fail
/-- methods of built-in types: the receiver, the arguments -/
abbrev FM := D → List D → Store → Res D
def appendM : FM := fun d es S => match d, es with
  | .ref n, [e] => (match cellL S n with
    | some ds => if ds.length < sizeLine then .ok .non (S.set n (some (.lst (ds ++ [e])))) else .fail
    | none => .fail)
  | _, _ => .fail
def popM : FM := fun d es S => match d, es with
  | .ref n, [] => (match cellL S n with
    | some ds => (match ds[ds.length - 1]? with
      | some x => .ok x (S.set n (some (.lst ds.dropLast)))
      | none => .fail)
    | none => .fail)
  | _, _ => .fail
def reverseM : FM := fun d es S => match d, es with
  | .ref n, [] => (match cellL S n with
    | some ds => .ok .non (S.set n (some (.lst ds.reverse)))
    | none => .fail)
  | _, _ => .fail
def splitM : FM := fun d es S => match d, es with
  | .str a, [.str b] => if (b.length == 0) = false ∧ a.length + 2 ≤ sizeLine then newL ((Txt.split a b).map D.str) S else .fail
  | _, _ => .fail
def joinM : FM := fun d es S => match d, es with
  | .str a, [.tup ds] => (match strsD ds with
    | some ys => if (ys.map (·.length)).sum + ys.length * a.length ≤ 16777216 then .ok (.str (Txt.join a ys)) S else .fail
    | none => .fail)
  | .str a, [d] => (match (seqL S d).bind strsD with
    | some ys => if (ys.map (·.length)).sum + ys.length * a.length ≤ 16777216 then .ok (.str (Txt.join a ys)) S else .fail
    | none => .fail)
  | _, _ => .fail
/-- a value's truth -/
def truD (S : Store) : D → Option Bool
  | .non => some false
  | .bl b => some b
  | .int i => some (i != 0)
  | .str z => if z.length ≤ sizeLine then some ((z.length : Int) != 0) else none
  | .tup ds => some (!ds.isEmpty)
  | d => (seqL S d).map fun ds => !ds.isEmpty
section
variable {X : Cx} {J : Jd} (hK : J.K = X.K)
theorem atI_at {W : Wd} {ds : List D} {vs : List V} {i : Int} {d : D} (h : atI ds i = some d) (r : Reps J.K W ds vs) : ∃ v, atI vs i = some v ∧ Rep J.K W d v := by
  unfold atI at h ⊢
  rw [r.length]
  obtain ⟨j, h1, h2⟩ := Option.bind_eq_some_iff.mp h
  obtain ⟨v, h3, h4⟩ := r.get h2
  exact ⟨v, by rw [h1]; exact h3, h4⟩
include hK
theorem ok_ix : IxR X (rD J ixD) := by
  intro value slice pins s σ H x y v u Q I rx ry ⟨W, d, e, hH, sm, rd, re, p⟩ hs
  subst hH
  unfold ixD at p
  split at p
  · rename_i i
    cases (show y = _ from re)
    split at p
    · split at p
      · rename_i ds x' hx
        obtain ⟨a, vs, rfl, ha, ra⟩ := tup_at rd
        rw [hK] at ha
        obtain ⟨v', h1, h2⟩ := atI_at hx ra
        exact ix_tup value slice pins s σ _ _ _ v u Q I rx ry ⟨a, vs, i, v', rfl, rfl, ha, h1, p.val sm h2⟩ hs
      · exact p.elim
    · split at p
      · rename_i z hz
        cases (show x = _ from rd)
        split at p
        · rename_i c hc
          exact ix_str value slice pins s σ _ _ _ v u Q I rx ry ⟨z, i, c, rfl, rfl, hz, hc, p.val sm rfl⟩ hs
        · exact p.elim
      · exact p.elim
    · split at p
      · rename_i x' hx
        obtain ⟨ds, h1, h2⟩ := Option.bind_eq_some_iff.mp hx
        obtain ⟨a, vs, rfl, ha, ra⟩ := seqL_at sm h1 rd
        rw [hK] at ha
        obtain ⟨v', h3, h4⟩ := atI_at h2 ra
        exact ix_list value slice pins s σ _ _ _ v u Q I rx ry ⟨a, vs, i, v', rfl, rfl, ha, h3, p.val sm h4⟩ hs
      · exact p.elim
  · exact p.elim
omit hK in
theorem cut_at {W : Wd} {ds : List D} {vs : List V} {lo hi : Option Int} (r : Reps J.K W ds vs) : Reps J.K W (cutD ds lo hi) (cutV vs lo hi) := by
  unfold cutD cutV
  rw [r.length]
  exact (r.drop _).take _
def rS (J : Jd) (f : D → Option Int → Option Int → Store → Res D) : V → Option Int → Option Int → Hp → VK → Prop := fun x lo hi H Q => ∃ W d, W.H = H ∧ Sim J.K J.ca W ∧ Rep J.K W d x ∧ Post J W (f d lo hi W.S) Q
theorem ok_sl : SlR X (rS J slD) := by
  intro pins s σ H x v vl vu lo hi sl Q I rx h1 h2 h3 ⟨W, d, hH, sm, rd, p⟩
  subst hH
  unfold slD at p
  split at p
  · rename_i ds
    obtain ⟨a, vs, rfl, ha, ra⟩ := tup_at rd
    rw [hK] at ha
    refine sl_tupA pins s σ _ _ v vl vu lo hi sl Q I rx h1 h2 h3 ⟨a, vs, rfl, ha, fun ⟨e1, e2⟩ => ?_, fun _ => post_tup sm (cut_at ra) p⟩
    have e : cutD ds lo hi = ds := by
      unfold cutD
      rw [← ra.length, e1, e2, List.drop_zero, Nat.sub_zero, ra.length, List.take_length]
    rw [e] at p
    exact p.val sm rd
  · split at p
    · rename_i z hz
      cases (show x = _ from rd)
      exact sl_str pins s σ _ _ v vl vu lo hi sl Q I rx h1 h2 h3 ⟨z, rfl, hz, p.val sm rfl⟩
    · exact p.elim
  · split at p
    · rename_i ds hd
      obtain ⟨a, vs, rfl, ha, ra⟩ := seqL_at sm hd rd
      rw [hK] at ha
      exact sl_list pins s σ _ _ v vl vu lo hi sl Q I rx h1 h2 h3 ⟨a, vs, rfl, ha, post_list sm (cut_at ra) p⟩
    · exact p.elim
/-- a built-in called -/
def rC (J : Jd) (f : List D → Store → Res D) : List V → Hp → VK → Prop := fun xs H Q => ∃ W ds, W.H = H ∧ Sim J.K J.ca W ∧ Reps J.K W ds xs ∧ Post J W (f ds W.S) Q
omit hK in
theorem reps1 {W : Wd} {d : D} {vs : List V} (r : Reps J.K W [d] vs) : ∃ v, vs = [v] ∧ Rep J.K W d v := by
  obtain ⟨v, r', h1, h2, h3⟩ := r
  cases (show r' = [] from h3)
  exact ⟨v, h1, h2⟩
omit hK in
theorem reps2 {W : Wd} {d e : D} {vs : List V} (r : Reps J.K W [d, e] vs) : ∃ v u, vs = [v, u] ∧ Rep J.K W d v ∧ Rep J.K W e u := by
  obtain ⟨v, r', h1, h2, h3⟩ := r
  obtain ⟨u, h4, h5⟩ := reps1 h3
  subst h4
  exact ⟨v, u, h1, h2, h5⟩
theorem ok_len : CallR X (.builtin "len") (rC J lenD) := by
  intro pins s σ H xs us Q I rx ⟨W, ds, hH, sm, rd, p⟩
  subst hH
  unfold lenD at p
  split at p
  · obtain ⟨v, rfl, r⟩ := reps1 rd
    obtain ⟨a, vs, rfl, ha, ra⟩ := tup_at r
    rw [hK] at ha
    exact call_len_seq pins s σ _ _ us Q I rx ⟨a, vs, rfl, .inr ha, by rw [ra.length]; exact p.val sm rfl⟩
  · split at p
    · rename_i z hz
      obtain ⟨v, rfl, r⟩ := reps1 rd
      cases (show v = _ from r)
      exact call_len_str pins s σ _ _ us Q I rx ⟨z, rfl, hz, p.val sm rfl⟩
    · exact p.elim
  · split at p
    · rename_i es he
      obtain ⟨v, rfl, r⟩ := reps1 rd
      obtain ⟨a, vs, rfl, ha, ra⟩ := seqL_at sm he r
      rw [hK] at ha
      exact call_len_seq pins s σ _ _ us Q I rx ⟨a, vs, rfl, .inl ha, by rw [ra.length]; exact p.val sm rfl⟩
    · exact p.elim
  · exact p.elim
omit hK in
theorem ok_abs : CallR X (.builtin "abs") (rC J absD) := by
  intro pins s σ H xs us Q I rx ⟨W, ds, hH, sm, rd, p⟩
  subst hH
  unfold absD at p
  split at p
  · rename_i i
    obtain ⟨v, rfl, r⟩ := reps1 rd
    cases (show v = _ from r)
    exact call_abs pins s σ _ _ us Q I rx ⟨i, rfl, p.val sm rfl⟩
  · exact p.elim
omit hK in
theorem intsD_eq : ∀ {ds : List D} {ns : List Int}, intsD ds = some ns → ds = ns.map D.int
  | [], _, h => by cases h; rfl
  | .int i :: ds, ns, h => by
    obtain ⟨ms, h1, h2⟩ := Option.map_eq_some_iff.mp (show (intsD ds).map (i :: ·) = some ns from h)
    subst h2
    rw [intsD_eq h1]; rfl
  | .non :: _, _, h | .bl _ :: _, _, h | .str _ :: _, _, h | .tup _ :: _, _, h | .lst _ :: _, _, h | .scr _ :: _, _, h | .ref _ :: _, _, h => nomatch h
omit hK in
theorem strsD_eq : ∀ {ds : List D} {ns : List Str}, strsD ds = some ns → ds = ns.map D.str
  | [], _, h => by cases h; rfl
  | .str i :: ds, ns, h => by
    obtain ⟨ms, h1, h2⟩ := Option.map_eq_some_iff.mp (show (strsD ds).map (i :: ·) = some ns from h)
    subst h2
    rw [strsD_eq h1]; rfl
  | .non :: _, _, h | .bl _ :: _, _, h | .int _ :: _, _, h | .tup _ :: _, _, h | .lst _ :: _, _, h | .scr _ :: _, _, h | .ref _ :: _, _, h => nomatch h
theorem ok_sum (hc : X.calm = true) : CallR X (.builtin "sum") (rC J sumD) := by
  intro pins s σ H xs us Q I rx ⟨W, ds, hH, sm, rd, p⟩
  subst hH
  unfold sumD at p
  split at p
  · split at p
    · rename_i d _ ns hn
      obtain ⟨v, rfl, r⟩ := reps1 rd
      obtain ⟨es, h1, h2⟩ := Option.bind_eq_some_iff.mp hn
      obtain ⟨a, vs, rfl, ha, ra⟩ := seqL_at sm h1 r
      rw [hK] at ha
      rw [intsD_eq h2] at ra
      rw [ra.of_ints] at ha
      exact cr_sum hc pins s σ _ _ us Q I rx ⟨a, ns, rfl, ha, p.val sm rfl⟩
    · exact p.elim
  · exact p.elim
omit hK in
theorem ok_str : CallR X (.type "str") (rC J strD) := by
  intro pins s σ H xs us Q I rx ⟨W, ds, hH, sm, rd, p⟩
  subst hH
  unfold strD at p
  split at p
  · rename_i i
    split at p
    · rename_i hz
      obtain ⟨v, rfl, r⟩ := reps1 rd
      cases (show v = _ from r)
      exact call_str_int pins s σ _ _ us Q I rx ⟨i, rfl, hz, p.val sm rfl⟩
    · exact p.elim
  · exact p.elim
omit hK in
theorem ok_int : CallR X (.type "int") (rC J intD) := by
  intro pins s σ H xs us Q I rx ⟨W, ds, hH, sm, rd, p⟩
  subst hH
  unfold intD at p
  split at p
  · obtain ⟨v, rfl, r⟩ := reps1 rd
    cases (show v = _ from r)
    exact call_int1 pins s σ _ _ us Q I rx (.inl ⟨_, rfl, p.val sm rfl⟩)
  · obtain ⟨v, rfl, r⟩ := reps1 rd
    cases (show v = _ from r)
    exact call_int1 pins s σ _ _ us Q I rx (.inr ⟨_, rfl, p.val sm rfl⟩)
  · split at p
    · rename_i z hz
      obtain ⟨v, rfl, r⟩ := reps1 rd
      cases (show v = _ from r)
      split at p
      · rename_i n hn
        exact call_int_str pins s σ _ _ us Q I rx ⟨z, n, rfl, hn, hz, p.val sm rfl⟩
      · exact p.elim
    · exact p.elim
  · exact p.elim
theorem ok_list : CallR X (.type "list") (rC J listD) := by
  intro pins s σ H xs us Q I rx ⟨W, ds, hH, sm, rd, p⟩
  subst hH
  unfold listD at p
  split at p
  · obtain ⟨v, rfl, r⟩ := reps1 rd
    obtain ⟨a, vs, rfl, ha, ra⟩ := tup_at r
    rw [hK] at ha
    exact call_list_of pins s σ _ _ us Q I rx ⟨a, vs, rfl, .inr ha, post_list sm ra p⟩
  · split at p
    · rename_i es he
      obtain ⟨v, rfl, r⟩ := reps1 rd
      obtain ⟨a, vs, rfl, ha, ra⟩ := seqL_at sm he r
      rw [hK] at ha
      exact call_list_of pins s σ _ _ us Q I rx ⟨a, vs, rfl, .inl ha, post_list sm ra p⟩
    · exact p.elim
  · exact p.elim
theorem ok_tuple : CallR X (.type "tuple") (rC J tupleD) := by
  intro pins s σ H xs us Q I rx ⟨W, ds, hH, sm, rd, p⟩
  subst hH
  unfold tupleD at p
  split at p
  · obtain ⟨v, rfl, r⟩ := reps1 rd
    obtain ⟨a, vs, rfl, ha, ra⟩ := tup_at r
    rw [hK] at ha
    exact call_tuple_of pins s σ _ _ us Q I rx ⟨a, vs, rfl, .inr ⟨ha, p.val sm r⟩⟩
  · split at p
    · rename_i es he
      obtain ⟨v, rfl, r⟩ := reps1 rd
      obtain ⟨a, vs, rfl, ha, ra⟩ := seqL_at sm he r
      rw [hK] at ha
      exact call_tuple_of pins s σ _ _ us Q I rx ⟨a, vs, rfl, .inl ⟨ha, post_tup sm ra p⟩⟩
    · exact p.elim
  · exact p.elim
theorem tyD_at {W : Wd} (sm : Sim J.K J.ca W) {d : D} {t : String} {x : V} (h : tyD W.S d = some t) (r : Rep J.K W d x) : TyX X.K W.H x (.type t) := by
  cases d with
  | non => cases h; cases (show x = _ from r); exact .base .non
  | bl b => cases h; cases (show x = _ from r); exact .base (.bl _)
  | int i => cases h; cases (show x = _ from r); exact .base (.int _)
  | str z => cases h; cases (show x = _ from r); exact .base (.str _)
  | tup ds =>
    cases h
    obtain ⟨a, vs, rfl, h2, _⟩ := r
    rcases h2 with h2 | ⟨o, its, n, h2, h3, _⟩
    · exact .base (.tup h2)
    · rw [hK] at h2; exact .kTuple h2 h3
  | lst ds =>
    cases h
    obtain ⟨a, vs, rfl, h2, _⟩ := r
    exact .base (.lst h2)
  | scr ns =>
    cases h
    obtain ⟨a, rfl, h2⟩ := r
    rcases h2 with ⟨h2 | ⟨o, h2⟩, _⟩ | ⟨o, its, n, h2, h3, _⟩
    · exact .base (.lst h2)
    · exact .base (.frz h2)
    · rw [hK] at h2; exact .kList h2 h3
  | ref n =>
    obtain ⟨ds, h1, h2⟩ := Option.map_eq_some_iff.mp (show (cellL W.S n).map (fun _ => "list") = some t from h)
    subst h2
    obtain ⟨a, vs, rfl, ha, _⟩ := listOf_at (d := .ref n) sm h1 r
    exact .base (.lst ha)
/-- the call's second argument is a built-in type -/
theorem ok_isi (T : String) : CallR X (.builtin "isinstance") (fun xs H Q => ∃ x, xs = [x, .ty T] ∧ rC J (isiD T) [x] H Q) := by
  intro pins s σ H xs us Q I rx ⟨x, hx, W, ds, hH, sm, rd, p⟩
  subst hH
  subst hx
  unfold isiD at p
  split at p
  · rename_i d
    split at p
    · rename_i b hb
      obtain ⟨v, e, r⟩ := reps1 rd
      cases e
      obtain ⟨t, h1, h2⟩ := Option.bind_eq_some_iff.mp hb
      exact call_isi pins s σ _ _ us Q I rx ⟨x, .ty T, .type t, .type T, b, rfl, .ty T, tyD_at hK sm h1 r, kit_ty h2, p.val sm rfl⟩
    · exact p.elim
  · exact p.elim
/-- a method called -/
def rM (J : Jd) (f : FM) : V → List V → Hp → VK → Prop := fun x xs H Q => ∃ W d ds, W.H = H ∧ Sim J.K J.ca W ∧ Rep J.K W d x ∧ Reps J.K W ds xs ∧ Post J W (f d ds W.S) Q
omit hK in
theorem cellL_at {W : Wd} (sm : Sim J.K J.ca W) {n : Nat} {ds : List D} {x : V} (h : cellL W.S n = some ds) (r : Rep J.K W (.ref n) x) : W.S[n]? = some (some (.lst ds)) ∧ ∃ a vs, x = .ref a ∧ W.φ n = some a ∧ W.H a = some (.lst vs) ∧ Reps J.K W ds vs := by
  unfold cellL at h
  split at h
  · rename_i es e
    cases h
    exact ⟨e, sm.lst_at e r⟩
  · cases h
omit hK in
/-- behind a store to a list's cell -/
theorem post_put {W : Wd} {n : Nat} {ds0 ds : List D} {a : Addr} {vs : List V} {d : D} {v : V} {Q : VK} (sm : Sim J.K J.ca W) (h0 : W.S[n]? = some (some (.lst ds0))) (hf : W.φ n = some a) (r : Reps J.K W ds vs) (rv : Rep J.K W d v)
    (p : Post J W (.ok d (W.S.set n (some (.lst ds)))) Q) : Q v (upd W.H a (.lst vs)) := by
  obtain ⟨e, s'⟩ := put_list sm h0 hf r
  exact p (W.put n (.lst ds) (upd W.H a (.lst vs))) v rfl e s' (rv.mono sm e)
omit hK in
theorem ok_append : MtR X "list.append" (rM J appendM) := by
  intro pins s σ H x xs v us Q I rx rs ⟨W, d, ds, hH, sm, rd, re, p⟩
  subst hH
  unfold appendM at p
  split at p
  · rename_i n e
    split at p
    · rename_i cs hc
      split at p
      · rename_i hz
        obtain ⟨u, rfl, r⟩ := reps1 re
        obtain ⟨h0, a, vs, rfl, hf, ha, ra⟩ := cellL_at sm hc rd
        exact mt_append pins s σ _ _ _ v us Q I rx rs ⟨a, vs, u, rfl, rfl, ha, by rw [ra.length]; exact hz, post_put sm h0 hf (ra.append (.cons r .nil)) (show Rep J.K W .non .non from rfl) p⟩
      · exact p.elim
    · exact p.elim
  · exact p.elim
omit hK in
theorem Reps.dropLast {W : Wd} {ds : List D} {vs : List V} (r : Reps J.K W ds vs) : Reps J.K W ds.dropLast vs.dropLast := by
  rw [List.dropLast_eq_take, List.dropLast_eq_take, r.length]
  exact r.take _
omit hK in
theorem ok_pop : MtR X "list.pop" (rM J popM) := by
  intro pins s σ H x xs v us Q I rx rs ⟨W, d, ds, hH, sm, rd, re, p⟩
  subst hH
  unfold popM at p
  split at p
  · rename_i n
    split at p
    · rename_i cs hc
      split at p
      · rename_i y hy
        cases (show xs = [] from re)
        obtain ⟨h0, a, vs, rfl, hf, ha, ra⟩ := cellL_at sm hc rd
        obtain ⟨yv, h1, h2⟩ := ra.get hy
        exact mt_pop pins s σ _ _ _ v us Q I rx rs ⟨a, vs, yv, rfl, rfl, ha, by rw [ra.length]; exact h1, post_put sm h0 hf ra.dropLast h2 p⟩
      · exact p.elim
    · exact p.elim
  · exact p.elim
omit hK in
theorem ok_reverse : MtR X "list.reverse" (rM J reverseM) := by
  intro pins s σ H x xs v us Q I rx rs ⟨W, d, ds, hH, sm, rd, re, p⟩
  subst hH
  unfold reverseM at p
  split at p
  · rename_i n
    split at p
    · rename_i cs hc
      cases (show xs = [] from re)
      obtain ⟨h0, a, vs, rfl, hf, ha, ra⟩ := cellL_at sm hc rd
      exact mt_reverse pins s σ _ _ _ v us Q I rx rs ⟨a, vs, rfl, rfl, ha, post_put sm h0 hf ra.reverse (show Rep J.K W .non .non from rfl) p⟩
    · exact p.elim
  · exact p.elim
omit hK in
theorem ok_split : MtR X "str.split" (rM J splitM) := by
  intro pins s σ H x xs v us Q I rx rs ⟨W, d, ds, hH, sm, rd, re, p⟩
  subst hH
  unfold splitM at p
  split at p
  · rename_i a b
    split at p
    · rename_i hz
      obtain ⟨u, rfl, r⟩ := reps1 re
      cases (show x = _ from rd); cases (show u = _ from r)
      exact mt_split pins s σ _ _ _ v us Q I rx rs ⟨a, b, rfl, rfl, hz.1, hz.2, post_list sm Reps.strs p⟩
    · exact p.elim
  · exact p.elim
theorem ok_join : MtR X "str.join" (rM J joinM) := by
  intro pins s σ H x xs v us Q I rx rs ⟨W, d, ds, hH, sm, rd, re, p⟩
  subst hH
  unfold joinM at p
  split at p
  · rename_i a es
    split at p
    · rename_i ys hy
      split at p
      · rename_i hz
        obtain ⟨u, rfl, r⟩ := reps1 re
        cases (show x = _ from rd)
        obtain ⟨b, vs, rfl, hb, rb⟩ := tup_at r
        rw [hK] at hb
        rw [strsD_eq hy] at rb
        rw [rb.of_strs] at hb
        exact mt_join pins s σ _ _ _ v us Q I rx rs ⟨a, b, ys, rfl, rfl, .inr hb, hz, p.val sm rfl⟩
      · exact p.elim
    · exact p.elim
  · rename_i a d0 _
    split at p
    · rename_i ys hy
      split at p
      · rename_i hz
        obtain ⟨u, rfl, r⟩ := reps1 re
        cases (show x = _ from rd)
        obtain ⟨es, h1, h2⟩ := Option.bind_eq_some_iff.mp hy
        obtain ⟨b, vs, rfl, hb, rb⟩ := seqL_at sm h1 r
        rw [hK] at hb
        rw [strsD_eq h2] at rb
        rw [rb.of_strs] at hb
        exact mt_join pins s σ _ _ _ v us Q I rx rs ⟨a, b, ys, rfl, rfl, .inl hb, hz, p.val sm rfl⟩
      · exact p.elim
    · exact p.elim
  · exact p.elim
omit hK in
theorem empty_at {W : Wd} {ds : List D} {vs : List V} (r : Reps J.K W ds vs) : vs.isEmpty = ds.isEmpty := by
  have h := r.length
  cases ds <;> cases vs <;> first | rfl | (simp at h)
/-- truth -/
theorem truD_at {W : Wd} (sm : Sim J.K J.ca W) {d : D} {b : Bool} {x : V} (h : truD W.S d = some b) (r : Rep J.K W d x) : TruV X.K x W.H b := by
  have key : ∀ d, (seqL W.S d).map (fun ds => !ds.isEmpty) = some b → Rep J.K W d x → TruV X.K x W.H b := fun d h r => by
    obtain ⟨ds, h1, h2⟩ := Option.map_eq_some_iff.mp h
    subst h2
    obtain ⟨a, vs, rfl, h3, h4⟩ := seqL_at sm h1 r
    rw [hK] at h3
    exact .inl ⟨vs, h3, by rw [empty_at h4]⟩
  cases d with
  | non => cases h; cases (show x = _ from r); rfl
  | bl b => cases h; cases (show x = _ from r); rfl
  | int i => cases h; cases (show x = _ from r); rfl
  | str z =>
    have h : (if z.length ≤ sizeLine then some ((z.length : Int) != 0) else none) = some b := h
    split at h
    · rename_i hz; cases h; cases (show x = _ from r); exact ⟨hz, rfl⟩
    · cases h
  | tup ds =>
    cases h
    obtain ⟨a, vs, rfl, h2, h3⟩ := tup_at r
    rw [hK] at h2
    exact .inr (.inl ⟨vs, h2, by rw [empty_at h3]⟩)
  | lst l => exact key (.lst l) h r
  | scr l => exact key (.scr l) h r
  | ref n => exact key (.ref n) h r
end
end E

set_option linter.all false
set_option maxRecDepth 100000
set_option maxHeartbeats 4000000
/- Evaluator E, part E: the evaluator itself. -/
namespace E
open PySem PySem.Spec PyProof.Rows L2
open Classical in
/-- a test by cases, of any proposition -/
noncomputable def ifc {α : Type} (p : Prop) (a b : α) : α := if p then a else b
theorem ifc_pos {α : Type} {p : Prop} {a b : α} (h : p) : ifc p a b = a := by unfold ifc; rw [if_pos h]
theorem ifc_neg {α : Type} {p : Prop} {a b : α} (h : ¬ p) : ifc p a b = b := by unfold ifc; rw [if_neg h]
abbrev EnvD := List (Option D)
abbrev Ev := EnvD → Store → Res D
abbrev EvL := EnvD → Store → Res (List D)
abbrev EvB := EnvD → Store → Res Bool
abbrev Sem1 := List D → Store → Res D
inductive Fl where
  | next (ρ : EnvD) | ret (d : D) | brk (ρ : EnvD) | cont (ρ : EnvD)
abbrev EvS := EnvD → Store → Res Fl
/-- what the program's top tells -/
structure Tab where
  glob : Str → Option D
  call : Str → Option Sem1
  callH : Str → Option Sem1
  make : Str → Option Sem1
  attr : Str → Str → Bool
  meth : Str → Str → Option Sem1
  exc : Str → Option (List Str)
  exm : Str → Str → Option Bool
  exk : Str → Bool
  xattr : Str → Str → Bool
  xis : Str → Str → Option Bool
  bis : List Str
  wf : Nat
structure Gm where
  T : Tab
  N : List Str
  sc : Scope
  fn : Str → Bool
  hot : Bool
def okName (x : Str) : Bool := !(x == ("__debug__" : Str)) && !(x == ("__classdict__" : Str)) && !(x == ("__name__" : Str))
def Gm.slot (Γ : Gm) (x : Str) : Option Nat := match Γ.sc.names.lookup x with
  | some .local => Γ.N.idxOf? x
  | some .cell => Γ.N.idxOf? x
  | some .free => Γ.N.idxOf? x
  | _ => none
def Gm.isGl (Γ : Gm) (x : Str) : Bool := match Γ.sc.names.lookup x with
  | some .globalImplicit => okName x
  | _ => false
/-- a slot read, stored -/
def getE (ρ : EnvD) (i : Nat) (S : Store) : Res D := match ρ[i]? with
  | some (some d) => .ok d S
  | _ => .fail
def nameE (Γ : Gm) (x : Str) : Ev := fun ρ S => match Γ.slot x with
  | some i => if okName x then getE ρ i S else .fail
  | none => if Γ.isGl x then (match Γ.T.glob x with
    | some d => .ok d S
    | none => .fail) else .fail
def constE : Const → Ev := fun c ρ S => match c with
  | .int i => .ok (.int i) S
  | .str s => .ok (.str s) S
  | .bool b => .ok (.bl b) S
  | .none => .ok .non S
  | _ => .fail
def isStar : Expr → Bool
  | .Starred .. => true
  | _ => false
def isSet : Expr → Bool
  | .Set .. => true
  | _ => false
def isSlice : Expr → Bool
  | .Slice .. => true
  | _ => false
/-- a display that a comprehension makes, or one that is stored by pairs -/
def isComp : Expr → Bool
  | .ListComp .. => true
  | .SetComp .. => true
  | .DictComp .. => true
  | _ => false
def isTup : Expr → Bool
  | .Tuple .. => true
  | _ => false
def isCall0 : Expr → Bool
  | .Call (.Name _ _) [] [] _ => true
  | _ => false
/-- from the left -/
def evL' (r : Expr → Ev) : List Expr → EvL
  | [] => fun _ S => .ok [] S
  | e :: es => fun ρ S => (r e ρ S).bind fun d S1 => (evL' r es ρ S1).bind fun ds S2 => .ok (d :: ds) S2
def noStar (es : List Expr) : Bool := es.all fun e => !isStar e
def evL (r : Expr → Ev) (es : List Expr) : EvL := if noStar es then evL' r es else fun _ _ => .fail
def negD : D → Store → Res D
  | .int i, S => .ok (.int (-i)) S
  | _, _ => .fail
def truE (r : Ev) : EvB := fun ρ S => (r ρ S).bind fun d S1 => match truD S1 d with
  | some b => .ok b S1
  | none => .fail
/-- a and b, a or b as values -/
def andE (r : Expr → Ev) : List Expr → Ev
  | [] => fun _ _ => .fail
  | [e] => r e
  | e :: es => fun ρ S => (r e ρ S).bind fun d S1 => match truD S1 d with
    | some true => andE r es ρ S1
    | some false => .ok d S1
    | none => .fail
def orE (r : Expr → Ev) : List Expr → Ev
  | [] => fun _ _ => .fail
  | [e] => r e
  | e :: es => fun ρ S => (r e ρ S).bind fun d S1 => match truD S1 d with
    | some false => orE r es ρ S1
    | some true => .ok d S1
    | none => .fail
/-- .. as tests -/
def andT (t : Expr → EvB) : List Expr → EvB
  | [] => fun _ _ => .fail
  | [e] => t e
  | e :: es => fun ρ S => (t e ρ S).bind fun b S1 => if b then andT t es ρ S1 else .ok false S1
def orT (t : Expr → EvB) : List Expr → EvB
  | [] => fun _ _ => .fail
  | [e] => t e
  | e :: es => fun ρ S => (t e ρ S).bind fun b S1 => if b then .ok true S1 else orT t es ρ S1
def cmpE (op : CmpOp) (r : Expr → Ev) (a b : Expr) : Ev := fun ρ S => if behindInMarks op b then .fail else (r a ρ S).bind fun d S1 => (r b ρ S1).bind fun e S2 => cmpD op d e S2
def partE (r : Expr → Ev) : Option Expr → EnvD → Store → Res (Option Int)
  | none => fun _ S => .ok none S
  | some e => fun ρ S => (r e ρ S).bind fun d S1 => match d with
    | .int i => .ok (some i) S1
    | _ => .fail
def sliceE (r : Expr → Ev) (a : Expr) (lo hi : Option Expr) : Ev := fun ρ S => (r a ρ S).bind fun d S1 => (partE r lo ρ S1).bind fun l S2 => (partE r hi ρ S2).bind fun h S3 => slD d l h S3
def cellI (S : Store) (n : Nat) : Option (Str × List (Str × D)) := match S[n]? with
  | some (some (.ins C fs)) => some (C, fs)
  | _ => none
def insL (S : Store) : D → Option (Str × List (Str × D))
  | .ref n => cellI S n
  | _ => none
def attrE (T : Tab) (f : Str) (d : D) (S : Store) : Res D := match insL S d with
  | some (C, fs) => if T.attr C f then (match fs.lookup f with
    | some x => .ok x S
    | none => .fail) else .fail
  | none => .fail
/-- the built-ins -/
inductive BI where
  | len | abs | sum | str | int | list | tuple
def biF : Str → Option BI := fun x =>
  if x = "len" then some .len else
  if x = "abs" then some .abs else
  if x = "sum" then some .sum else
  if x = "str" then some .str else
  if x = "int" then some .int else
  if x = "list" then some .list else
  if x = "tuple" then some .tuple else
  none
def BI.f : BI → Sem1
  | .len => lenD
  | .abs => absD
  | .sum => sumD
  | .str => strD
  | .int => intD
  | .list => listD
  | .tuple => tupleD
def tyF : Str → Option String := fun x =>
  if x = "bool" then some "bool" else
  if x = "int" then some "int" else
  if x = "str" then some "str" else
  if x = "list" then some "list" else
  if x = "tuple" then some "tuple" else
  if x = "dict" then some "dict" else
  none
/-- C(..) -/
def makeE (init : Sem1) (C : Str) : Sem1 := fun ds S => (init (.ref S.length :: ds) (S ++ [some (.ins C [])])).bind fun d S1 => match d with
  | .non => .ok (.ref S.length) S1
  | _ => .fail
def isiE (Γ : Gm) (r : Expr → Ev) : List Expr → Ev
  | [e, .Name t _] => fun ρ S => if Γ.isGl t && decide (t ∈ Γ.T.bis) then (match tyF t with
    | some T => if isStar e then .fail else (r e ρ S).bind fun d S1 => isiD T [d] S1
    | none => .fail) else .fail
  | _ => fun _ _ => .fail
def callE (Γ : Gm) (r : Expr → Ev) (x : Str) (es : List Expr) : Ev := fun ρ S => if Γ.isGl x then (match Γ.T.call x with
    | some f => (evL r es ρ S).bind f
    | none => (match Γ.T.make x with
      | some f => (evL r es ρ S).bind (makeE f x)
      | none => if decide (x ∈ Γ.T.bis) then (if x = "isinstance" then isiE Γ r es ρ S else (match es with
        | [] => .fail
        | e :: es => (match biF x with
          | some b => (evL r (e :: es) ρ S).bind b.f
          | none => .fail))) else .fail)) else .fail
/-- a call where an exception is handled -/
def hotE (Γ : Gm) (r : Expr → Ev) (x : Str) (es : List Expr) : Ev := fun ρ S => if Γ.isGl x then (match Γ.T.callH x with
    | some f => (match es with
      | [] => .fail
      | e :: es => (evL r (e :: es) ρ S).bind f)
    | none => if decide (x ∈ Γ.T.bis) then (if x = "isinstance" then isiE Γ r es ρ S else if x = "len" then (match es with
        | [] => .fail
        | e :: es => (evL r (e :: es) ρ S).bind lenD) else .fail) else .fail) else .fail
inductive BM where
  | append | pop | reverse | split | join
def BM.f : BM → FM
  | .append => appendM
  | .pop => popM
  | .reverse => reverseM
  | .split => splitM
  | .join => joinM
/-- methods of built-in types without and with an argument -/
def bm0F : Str → Option BM := fun x =>
  if x = "pop" then some .pop else
  if x = "reverse" then some .reverse else
  none
def bm1F : Str → Option BM := fun x =>
  if x = "append" then some .append else
  if x = "split" then some .split else
  if x = "join" then some .join else
  none
def methG (o : Expr) (line : Bool) (es : List Expr) : Bool := !isCall0 o && line && decide (es.length < 29) && noStar es
/-- whether a receiver has the method -/
def bmOk (b : BM) (S : Store) (d : D) : Bool := match b, d with
  | .append, .ref n => (cellL S n).isSome
  | .split, .str _ => true
  | .join, .str _ => true
  | _, _ => false
/-- behind the receiver -/
def methK (Γ : Gm) (r : Expr → Ev) (m : Str) (es : List Expr) (ρ : EnvD) (d : D) (S1 : Store) : Res D := match insL S1 d with
  | some p => (match Γ.T.meth p.1 m, p.2.lookup m with
    | some f, none => (evL r es ρ S1).bind fun ds S2 => f (d :: ds) S2
    | _, _ => .fail)
  | none => (match es with
    | [] => (match bm0F m with
      | some b => b.f d [] S1
      | none => .fail)
    | [e] => (match bm1F m with
      | some b => if bmOk b S1 d then (evL r [e] ρ S1).bind fun ds S2 => b.f d ds S2 else .fail
      | none => .fail)
    | _ => .fail)
def methE (Γ : Gm) (r : Expr → Ev) (o : Expr) (m : Str) (line : Bool) (es : List Expr) : Ev := fun ρ S => if methG o line es then (r o ρ S).bind (methK Γ r m es ρ) else .fail
/-! ### what is walked -/
inductive Src where
  | still | cell (n : Nat)
def chk (src : Src) (ds : List D) (S : Store) : Prop := match src with
  | .still => True
  | .cell n => cellL S n = some ds
def rngD (lo : Int) (n : Nat) : List D := (List.range n).map fun i => D.int (lo + (i : Nat))
def big62 (n : Int) : Prop := -(2 ^ 62) ≤ n ∧ n < 2 ^ 62
instance (n : Int) : Decidable (big62 n) := by unfold big62; infer_instance
def iterD (d : D) (S : Store) : Res (List D × Src) := match d with
  | .tup ds => .ok (ds, .still) S
  | .str z => .ok (z.cps.toList.map fun c => D.str ⟨#[c]⟩, .still) S
  | .lst ds => .ok (ds, .still) S
  | .scr ns => .ok (ns.map D.int, .still) S
  | .ref n => (match cellL S n with
    | some ds => .ok (ds, .cell n) S
    | none => .fail)
  | _ => .fail
def rngE (r : Expr → Ev) : List Expr → EnvD → Store → Res (List D × Src)
  | [a] => fun ρ S => if isStar a then .fail else (r a ρ S).bind fun d S1 => match d with
    | .int n => if big62 n then .ok (rngD 0 n.toNat, .still) S1 else .fail
    | _ => .fail
  | [a, b] => fun ρ S => if isStar a || isStar b then .fail else (r a ρ S).bind fun d S1 => (r b ρ S1).bind fun e S2 => match d, e with
    | .int m, .int n => if big62 m ∧ big62 n then .ok (rngD m (n - m).toNat, .still) S2 else .fail
    | _, _ => .fail
  | _ => fun _ _ => .fail
def iterE (Γ : Gm) (r : Expr → Ev) (e : Expr) : EnvD → Store → Res (List D × Src) := fun ρ S => match e with
  | .Call (.Name x _) es [] _ => if Γ.isGl x && decide (x ∈ Γ.T.bis) && decide (x = "range") then rngE r es ρ S else (r e ρ S).bind iterD
  | e => if isSet e then .fail else (r e ρ S).bind iterD
/-- targets -/
def Gm.stOk (Γ : Gm) (x : Str) : Bool := match Γ.sc.names.lookup x with
  | some .local => true
  | some .cell => Γ.fn x
  | _ => false
def Gm.setI (Γ : Gm) (x : Str) : Option Nat := if Γ.stOk x then Γ.slot x else none
def setE (Γ : Gm) (x : Str) (d : D) (ρ : EnvD) : Option EnvD := (Γ.setI x).map fun i => ρ.set i (some d)
def setsE (Γ : Gm) : List Expr → List D → EnvD → Option EnvD
  | [], [], ρ => some ρ
  | .Name x _ :: es, d :: ds, ρ => (setE Γ x d ρ).bind fun ρ1 => setsE Γ es ds ρ1
  | _, _, _ => none
/-- a name, or a tuple of names -/
def tgE (Γ : Gm) (t : Expr) (d : D) (ρ : EnvD) : Option EnvD := match t with
  | .Name x _ => setE Γ x d ρ
  | .Tuple es _ _ => if Γ.hot then none else (match d with
    | .tup ds => setsE Γ es ds ρ
    | _ => none)
  | _ => none
/-- a comprehension's own names with their places -/
def ownE (N : List Str) (scope : Scope) : List (Str × Nat) := scope.names.filterMap fun y => match y.2 with
  | .local => (N.idxOf? y.1).map fun i => (y.1, i)
  | .cell => (N.idxOf? y.1).map fun i => (y.1, i)
  | _ => none
def wipeD (ρ : EnvD) : List Nat → EnvD
  | [] => ρ
  | v :: vs => (wipeD ρ vs).set v none
def blkG (Γ : Gm) (scope : Scope) : Gm := { Γ with sc := relS scope Γ.sc, fn := fun x => scope.names.lookup x == some .cell }
/-- the slots of a target -/
def tgL (Γ : Gm) : Expr → List Nat
  | .Name x _ => (Γ.slot x).toList
  | .Tuple es _ _ => es.flatMap fun e => match e with
    | .Name x _ => (Γ.slot x).toList
    | _ => []
  | _ => []
/-- the turns of a comprehension; n: the cell of the new list -/
noncomputable def compL (tg : D → Option EnvD) (tests : EvB) (elt : Ev) (src : Src) (all : List D) (n : Nat) : List D → Store → Res Unit
  | [], S => ifc (chk src all S) (.ok () S) .fail
  | x :: r, S => ifc (chk src all S) (match tg x with
    | some ρ1 => (match tests ρ1 S with
      | .ok true S1 => (match elt ρ1 S1 with
        | .ok d S2 => (match cellL S2 n with
          | some acc => if acc.length < sizeLine then compL tg tests elt src all n r (S2.set n (some (.lst (acc ++ [d])))) else .fail
          | none => .fail)
        | _ => .fail)
      | .ok false S1 => compL tg tests elt src all n r S1
      | _ => .fail)
    | none => .fail) .fail
def testsE (t : Expr → EvB) : List Expr → EvB
  | [] => fun _ S => .ok true S
  | [c] => t c
  | _ => fun _ _ => .fail
noncomputable def compE (Γ : Gm) (rg : Gm → Expr → Ev) (tg' : Gm → Expr → EvB) (elt tg iter : Expr) (ifs : List Expr) (scope : Scope) : Ev := fun ρ S =>
  if !(blkC Γ.N Γ.sc scope (ownE Γ.N scope) && (tgL (blkG Γ scope) tg).all fun i => decide (i ∈ (ownE Γ.N scope).map (·.2))) then .fail else
  (iterE Γ (rg Γ) iter ρ S).bind fun p S1 =>
    let ρ0 := wipeD ρ ((ownE Γ.N scope).map (·.2))
    (compL (fun x => tgE (blkG Γ scope) tg x ρ0) (testsE (tg' (blkG Γ scope)) ifs) (rg (blkG Γ scope) elt) p.2 p.1 S1.length p.1 (S1 ++ [some (.lst [])])).bind fun _ S2 => .ok (.ref S1.length) S2
/-- an expression by its parts -/
noncomputable def stepE (Γ : Gm) (rg : Gm → Expr → Ev) (tg : Gm → Expr → EvB) (e : Expr) : Ev := match e with
  | .Constant c _ _ => constE c
  | .Name x _ => nameE Γ x
  | .BinOp a op b _ => fun ρ S => (rg Γ a ρ S).bind fun d S1 => (rg Γ b ρ S1).bind fun e S2 => binD op d e S2
  | .UnaryOp .USub a _ => fun ρ S => (rg Γ a ρ S).bind negD
  | .UnaryOp .Not a _ => fun ρ S => (truE (rg Γ a) ρ S).bind fun b S1 => .ok (.bl (!b)) S1
  | .BoolOp .And es _ => andE (rg Γ) es
  | .BoolOp .Or es _ => orE (rg Γ) es
  | .Compare a [op] [b] _ => cmpE op (rg Γ) a b
  | .IfExp c a b _ => fun ρ S => (tg Γ c ρ S).bind fun t S1 => if t then rg Γ a ρ S1 else rg Γ b ρ S1
  | .Tuple es _ _ => fun ρ S => (evL (rg Γ) es ρ S).bind fun ds S1 => if ds.length ≤ sizeLine then .ok (.tup ds) S1 else .fail
  | .List es _ => fun ρ S => (evL (rg Γ) es ρ S).bind fun ds S1 => if ds.length ≤ sizeLine then newL ds S1 else .fail
  | .Subscript a (.Slice lo hi none _) _ => sliceE (rg Γ) a lo hi
  | .Subscript a b _ => fun ρ S => if isSlice b then .fail else (rg Γ a ρ S).bind fun d S1 => (rg Γ b ρ S1).bind fun e S2 => ixD d e S2
  | .Attribute o f _ => fun ρ S => if isCall0 o then .fail else (rg Γ o ρ S).bind fun d S1 => attrE Γ.T f d S1
  | .Call (.Name x _) es [] _ => if Γ.hot then hotE Γ (rg Γ) x es else callE Γ (rg Γ) x es
  | .Call (.Attribute o m apos) es [] pos => if Γ.hot then fun _ _ => .fail else methE Γ (rg Γ) o m (apos.endLine == pos.line) es
  | .ListComp elt [⟨t, iter, ifs, 0⟩] scope _ => if Γ.hot then fun _ _ => .fail else compE Γ rg tg elt t iter ifs scope
  | _ => fun _ _ => .fail
noncomputable def stepT (Γ : Gm) (rg : Gm → Expr → Ev) (tg : Gm → Expr → EvB) (e : Expr) : EvB := match e with
  | .BoolOp .And es _ => andT (tg Γ) es
  | .BoolOp .Or es _ => orT (tg Γ) es
  | .UnaryOp .Not a _ => fun ρ S => (tg Γ a ρ S).bind fun b S1 => .ok (!b) S1
  | .IfExp _ _ _ _ => fun _ _ => .fail
  | .Compare a [op] [b] _ => fun ρ S => (cmpE op (rg Γ) a b ρ S).bind fun d S1 => (match d with
    | .bl b => .ok b S1
    | _ => .fail)
  | .Compare _ _ _ _ => fun _ _ => .fail
  | e => truE (stepE Γ rg tg e)
noncomputable def evs : Nat → (Gm → Expr → Ev) × (Gm → Expr → EvB)
  | 0 => (fun _ _ _ _ => .fail, fun _ _ _ _ => .fail)
  | n + 1 => (fun Γ => stepE Γ (evs n).1 (evs n).2, fun Γ => stepT Γ (evs n).1 (evs n).2)
noncomputable def ev (Γ : Gm) (n : Nat) (e : Expr) : Ev := (evs n).1 Γ e
noncomputable def evT (Γ : Gm) (n : Nat) (e : Expr) : EvB := (evs n).2 Γ e
/-! ### statements -/
def blockE (f : Stmt → EvS) : List Stmt → EvS
  | [] => fun ρ S => .ok (.next ρ) S
  | s :: r => fun ρ S => (f s ρ S).bind fun fl S1 => match fl with
    | .next ρ1 => blockE f r ρ1 S1
    | fl => .ok fl S1
noncomputable def forE (tg : D → EnvD → Option EnvD) (body : EvS) (src : Src) (all : List D) : List D → EvS
  | [], ρ, S => ifc (chk src all S) (.ok (.next ρ) S) .fail
  | x :: r, ρ, S => ifc (chk src all S) (match tg x ρ with
    | some ρ1 => (body ρ1 S).bind fun fl S1 => (match fl with
      | .next ρ2 => forE tg body src all r ρ2 S1
      | .cont ρ2 => forE tg body src all r ρ2 S1
      | .brk ρ2 => .ok (.next ρ2) S1
      | .ret d => .ok (.ret d) S1)
    | none => .fail) .fail
def whileE (c : EvB) (body : EvS) : Nat → EvS
  | 0 => fun _ _ => .fail
  | n + 1 => fun ρ S => (c ρ S).bind fun b S1 => if b then (body ρ S1).bind fun fl S2 => (match fl with
      | .next ρ2 => whileE c body n ρ2 S2
      | .cont ρ2 => whileE c body n ρ2 S2
      | .brk ρ2 => .ok (.next ρ2) S2
      | .ret d => .ok (.ret d) S2) else .ok (.next ρ) S1
/-- o.f = d -/
def putE (T : Tab) (f : Str) (o d : D) (S : Store) : Option Store := match o with
  | .ref n => (match cellI S n with
    | some (C, fs) => if T.attr C f ∧ fs.length < 1000 then some (S.set n (some (.ins C (putD f d fs)))) else none
    | none => none)
  | _ => none
/-- o[i] = d, a list -/
def setIxE (o i d : D) (S : Store) : Option Store := match o, i with
  | .ref n, .int k => (match cellL S n with
    | some ds => (ixN ds.length k).map fun j => S.set n (some (.lst (ds.set j d)))
    | none => none)
  | _, _ => none
/-- the data of an exception: its class, its attributes -/
def raiseE (Γ : Gm) (r : Expr → Ev) (C : Str) (es : List Expr) : EvS := fun ρ S => if Γ.isGl C then (match Γ.T.exc C with
  | some fs => (evL r es ρ S).bind fun ds S1 => if ds.length = fs.length then .exc C (fs.zip ds) S1 else .fail
  | none => .fail) else .fail
noncomputable def asgE (Γ : Gm) (r : Expr → Ev) (t v : Expr) : EvS := fun ρ S => match t with
  | .Name x _ => (match Γ.setI x with
    | some i => (r v ρ S).bind fun d S1 => .ok (.next (ρ.set i (some d))) S1
    | none => .fail)
  | .Attribute o f _ => if isComp v || isCall0 o then .fail else (r v ρ S).bind fun d S1 => (r o ρ S1).bind fun ov S2 => (match putE Γ.T f ov d S2 with
    | some S3 => .ok (.next ρ) S3
    | none => .fail)
  | .Subscript o i _ => if isSlice i then .fail else (r v ρ S).bind fun d S1 => (r o ρ S1).bind fun ov S2 => (r i ρ S2).bind fun iv S3 => (match setIxE ov iv d S3 with
    | some S4 => .ok (.next ρ) S4
    | none => .fail)
  | .Tuple ts _ _ => if isTup v || Γ.hot then .fail else (r v ρ S).bind fun d S1 => (match d with
    | .tup ds => (match setsE Γ ts ds ρ with
      | some ρ1 => .ok (.next ρ1) S1
      | none => .fail)
    | _ => .fail)
  | _ => .fail
/-- the exception that a suite holds: its name there, its class, its attributes -/
structure XI where
  x : Str
  C : Str
  fs : List (Str × D)
def xattrE (Γ : Gm) (xi : XI) (f : Str) : Ev := fun _ S => if Γ.T.xattr xi.C f then (match xi.fs.lookup f with
  | some d => .ok d S
  | none => .fail) else .fail
def xisE (Γ : Gm) (xi : XI) (C2 : Str) : Ev := fun _ S => if Γ.isGl "isinstance" && decide (("isinstance" : Str) ∈ Γ.T.bis) && Γ.isGl C2 then (match Γ.T.xis xi.C C2 with
  | some b => .ok (.bl b) S
  | none => .fail) else .fail
noncomputable def hxStep (Γ : Gm) (n : Nat) (xi : XI) (i : Nat) (r : Expr → Ev) (t : Expr → EvB) (e : Expr) : Ev := match e with
  | .Attribute (.Name y p) f q => if Γ.slot y = some i ∧ okName y = true then xattrE Γ xi f else ev Γ n (.Attribute (.Name y p) f q)
  | .Tuple es _ _ => fun ρ S => (evL r es ρ S).bind fun ds S1 => if ds.length ≤ sizeLine then .ok (.tup ds) S1 else .fail
  | .List es _ => fun ρ S => (evL r es ρ S).bind fun ds S1 => if ds.length ≤ sizeLine then newL ds S1 else .fail
  | .BoolOp .And es _ => andE r es
  | .BoolOp .Or es _ => orE r es
  | .UnaryOp .Not a _ => fun ρ S => (truE (r a) ρ S).bind fun b S1 => .ok (.bl (!b)) S1
  | .IfExp c a b _ => fun ρ S => (t c ρ S).bind fun t S1 => if t then r a ρ S1 else r b ρ S1
  | .Call (.Name g p) [.Name y p1, .Name C2 p2] [] q => if g = "isinstance" ∧ Γ.slot y = some i ∧ okName y = true then xisE Γ xi C2 else hotE Γ r g [.Name y p1, .Name C2 p2]
  | .Call (.Name g p) es [] q => hotE Γ r g es
  | e => ev Γ n e
noncomputable def hxStepT (Γ : Gm) (n : Nat) (xi : XI) (i : Nat) (r : Expr → Ev) (t : Expr → EvB) (e : Expr) : EvB := match e with
  | .BoolOp .And es _ => andT t es
  | .BoolOp .Or es _ => orT t es
  | .UnaryOp .Not a _ => fun ρ S => (t a ρ S).bind fun b S1 => .ok (!b) S1
  | .IfExp _ _ _ _ => fun _ _ => .fail
  | .Compare a ops bs p => evT Γ n (.Compare a ops bs p)
  | e => truE (hxStep Γ n xi i r t e)
noncomputable def hxs (Γ : Gm) (n : Nat) (xi : XI) (i : Nat) : Nat → (Expr → Ev) × (Expr → EvB)
  | 0 => (fun _ _ _ => .fail, fun _ _ _ => .fail)
  | k + 1 => (hxStep Γ n xi i (hxs Γ n xi i k).1 (hxs Γ n xi i k).2, hxStepT Γ n xi i (hxs Γ n xi i k).1 (hxs Γ n xi i k).2)
/-- a suite: tests, returns -/
noncomputable def hxR (r : Expr → Ev) (t : Expr → EvB) : Nat → List Stmt → Ev
  | 0, _ => fun _ _ => .fail
  | k + 1, ss => match ss with
    | .Return (some e) _ :: _ => r e
    | .If c b [] _ :: rest => fun ρ S => (t c ρ S).bind fun v S1 => if v then hxR r t k b ρ S1 else hxR r t k rest ρ S1
    | _ => fun _ _ => .fail
def Gm.hoty (Γ : Gm) : Gm := { Γ with hot := true }
/-- no exception may come out -/
def Res.nox {α : Type} (r : Res α) : Res α := match r with
  | .exc _ _ _ => .fail
  | r => r
/-- the call in a try's body -/
noncomputable def tcE (Γ : Gm) (n : Nat) (e : Expr) : Ev := match e with
  | .Call (.Name f _) (e1 :: es) [] _ => fun ρ S => if Γ.isGl f then (match Γ.T.call f with
    | some sem => (evL (ev Γ n) (e1 :: es) ρ S).nox.bind sem
    | none => .fail) else .fail
  | _ => fun _ _ => .fail
/-- .. and its statement -/
noncomputable def tsE (Γ : Gm) (n : Nat) (s : Stmt) : EvS := match s with
  | .Assign [.Name x _] e _ => fun ρ S => (match Γ.setI x with
    | some i => (tcE Γ n e ρ S).bind fun d S1 => .ok (.next (ρ.set i (some d))) S1
    | none => .fail)
  | .Return (some e) _ => fun ρ S => (tcE Γ n e ρ S).bind fun d S1 => .ok (.ret d) S1
  | .Expr e _ => fun ρ S => (tcE Γ n e ρ S).bind fun _ S1 => .ok (.next ρ) S1
  | _ => fun _ _ => .fail
/-- try: s, except C as x: suite -/
noncomputable def tryE (Γ : Gm) (n : Nat) (s : Stmt) (C x : Str) (suite : List Stmt) : EvS := fun ρ S => if Γ.hot || !Γ.isGl C || suite.isEmpty || !Γ.T.exk C then .fail else match Γ.setI x with
  | some i => if Γ.sc.names.lookup x = some .local then (match tsE Γ n s ρ S with
    | .exc C' fs S1 => (match Γ.T.exm C' C with
      | some true => ((hxR (hxs Γ.hoty n ⟨x, C', fs⟩ i n).1 (hxs Γ.hoty n ⟨x, C', fs⟩ i n).2 n suite (ρ.set i none) S1).nox.bind fun d S2 => .ok (.ret d) S2)
      | some false => .exc C' fs S1
      | none => .fail)
    | r => r) else .fail
  | none => .fail
/-- for x in range(e), where an exception is handled -/
noncomputable def forHE (Γ : Gm) (r : Expr → Ev) (body : EvS) (t iter : Expr) : EvS := match iter with
  | .Call (.Name x _) [a] [] _ => fun ρ S => if Γ.isGl x && decide (x ∈ Γ.T.bis) && decide (x = "range") then (rngE r [a] ρ S).bind fun p S1 => forE (tgE Γ t) body p.2 p.1 p.1 ρ S1 else .fail
  | _ => fun _ _ => .fail
noncomputable def stepS (Γ : Gm) (n : Nat) (b : List Stmt → EvS) (s : Stmt) : EvS := match s with
  | .Assign [t] v _ => asgE Γ (ev Γ n) t v
  | .Expr e _ => fun ρ S => if isComp e then .fail else (ev Γ n e ρ S).bind fun _ S1 => .ok (.next ρ) S1
  | .Return (some e) _ => fun ρ S => (ev Γ n e ρ S).bind fun d S1 => .ok (.ret d) S1
  | .Return none _ => fun _ S => .ok (.ret .non) S
  | .If c x y _ => fun ρ S => (evT Γ n c ρ S).bind fun t S1 => if t then b x ρ S1 else b y ρ S1
  | .For t iter body [] _ => if Γ.hot then forHE Γ (ev Γ n) (b body) t iter else fun ρ S => (iterE Γ (ev Γ n) iter ρ S).bind fun p S1 => forE (tgE Γ t) (b body) p.2 p.1 p.1 ρ S1
  | .While c body [] _ => whileE (evT Γ n c) (b body) Γ.T.wf
  | .Raise (some (.Call (.Name C _) es [] _)) none _ => if Γ.hot then fun _ _ => .fail else raiseE Γ (ev Γ n) C es
  | .Try [s] [.ExceptHandler (some (.Name C _)) (some x) suite _] [] [] _ => tryE Γ n s C x suite
  | .Pass _ => fun ρ S => .ok (.next ρ) S
  | .Break _ => fun ρ S => .ok (.brk ρ) S
  | .Continue _ => fun ρ S => .ok (.cont ρ) S
  | _ => fun _ _ => .fail
noncomputable def exB (Γ : Gm) : Nat → List Stmt → EvS
  | 0 => fun _ _ _ => .fail
  | n + 1 => blockE (stepS Γ n (exB Γ n))
end E

set_option linter.all false
set_option maxRecDepth 100000
set_option maxHeartbeats 4000000
/- Evaluator E, part F: what it gives on an expression, the program does. -/
namespace E
open PySem PySem.Spec PyProof.Rows L2
/-- the slots -/
def EnvR (K : PySem.W.Frag) (W : Wd) (ρ : EnvD) (σ : L2.St) : Prop := ρ.length = σ.length ∧ ∀ (i : Nat) (d : D), ρ[i]? = some (some d) → ∃ v, σ[i]? = some (some v) ∧ Rep K W d v
theorem EnvR.ext {K : PySem.W.Frag} {ca : Str → Addr} {W W' : Wd} {ρ : EnvD} {σ : L2.St} (h : EnvR K W ρ σ) (s : Sim K ca W) (e : Ext W W') : EnvR K W' ρ σ :=
  ⟨h.1, fun i d q => let ⟨v, h1, h2⟩ := h.2 i d q; ⟨v, h1, h2.mono s e⟩⟩
theorem EnvR.set {K : PySem.W.Frag} {W : Wd} {ρ : EnvD} {σ : L2.St} {i : Nat} {d : D} {v : V} (h : EnvR K W ρ σ) (r : Rep K W d v) : EnvR K W (ρ.set i (some d)) (σ.set i (some v)) := by
  refine ⟨by rw [List.length_set, List.length_set]; exact h.1, fun j e q => ?_⟩
  by_cases c : j = i
  · subst c
    have hl : j < ρ.length := by
      have := (List.getElem?_eq_some_iff.mp q).1
      rwa [List.length_set] at this
    rw [List.getElem?_set_self hl] at q
    cases q
    exact ⟨v, by rw [List.getElem?_set_self (by rw [← h.1]; exact hl)], r⟩
  · rw [List.getElem?_set_ne (Ne.symm c)] at q ⊢
    exact h.2 j e q
/-- what is promised of a def by data -/
def spD (K : PySem.W.Frag) (ca : Str → Addr) (f : Sem1) : Sp := fun vs H Q E => ∃ W ds, W.H = H ∧ Sim K ca W ∧ Reps K W ds vs ∧ Post ⟨K, ca, E⟩ W (f ds W.S) Q
/-- a class whose instances are asked by isinstance while they are handled -/
structure XkC (K : PySem.W.Frag) (C : Addr) : Prop where
  cl : (PySem.W.clsIn K C).isSome = true
  ga : PySem.W.findIn K (.ref C) "__getattribute__" = some (some (.builtin "BaseException.__getattribute__"))
  gt : PySem.W.findIn K (.ref C) "__getattr__" = some none
  ex : PySem.W.subIn K (.ref C) (.type "BaseException") = some true
  kc : PySem.W.findIn K (.ref C) "__class__" = some (some (.builtin "object.__class__"))
  kg : PySem.W.specialIn K (.builtin "object.__class__") "__get__" = some (some (.builtin "getset_descriptor.__get__"))
  kt : PySem.W.takesIn K (.builtin "object.__class__") = some true
  km : PySem.W.mroIn K C (.type "object") = some true
/-- the top, as the defs find it; lv: the level of what is called -/
structure TabOk (T : Tab) (P : Program) (w : World) (K : PySem.W.Frag) (mg : Str → Option Value) (base : Heap) (ca : Str → Addr) (lv : Nat) : Prop where
  glob : ∀ x d, T.glob x = some d → ∃ u v, mg x = some u ∧ RelV v u ∧ ∀ W, Rep K W d v
  call : ∀ x f, T.call x = some f → ∃ a fd ps, mg x = some (.ref a) ∧ PySem.W.keepIn K (.ref a) = true ∧ Binds K fd ps [] ∧ FnOk P w K mg base (L2N.CX P w) lv a fd ps (spD K ca f)
  make : ∀ x f, T.make x = some f → ∃ a fd ps k, k + 1 = lv ∧ mg x = some (.ref (ca x)) ∧ Mk K (ca x) a ∧ Binds K fd ps [] ∧ FnOk P w K mg base (L2N.CX P w) k a fd ps (spD K ca f)
  attr : ∀ C f, T.attr C f = true → Cls K (ca C) ∧ NoAttr K (ca C) f
  meth : ∀ C m f, T.meth C m = some f → ∃ a fd ps, Cls K (ca C) ∧ Meth K (ca C) m a ∧ Binds K fd ps [] ∧ FnOk P w K mg base (L2N.CX P w) lv a fd ps (spD K ca f)
  callH : ∀ x f, T.callH x = some f → ∃ a fd ps, mg x = some (.ref a) ∧ PySem.W.keepIn K (.ref a) = true ∧ Binds K fd ps [] ∧ L2H.FnH P w K mg base (L2N.CX P w) lv a fd ps (spD K ca f)
  exm : ∀ C C' b, T.exm C C' = some b → PySem.W.exmOne K (.ref (ca C)) (.ref (ca C')) = some b
  xattr : ∀ C f, T.xattr C f = true → XfC K (ca C) ∧ PySem.W.findIn K (.ref (ca C)) f = some none
  xis : ∀ C D b, T.xis C D = some b → XkC K (ca C) ∧ mg D = some (.ref (ca D)) ∧ PySem.W.kitOne K (.ref (ca C)) (.ref (ca D)) = some b
  exk : ∀ C, T.exk C = true → mg C = some (.ref (ca C))
  bis : ∀ x, x ∈ T.bis → mg x = none
structure Good (Γ : Gm) (J : Jd) (X : Cx) (lv : Nat) : Prop where
  K : J.K = X.K
  N : X.N = Γ.N
  nd : X.N.Nodup
  sc : X.env.scope = Γ.sc
  kind : Γ.sc.kind = .function
  fn : X.fn = Γ.fn
  calm : Γ.hot = false → X.calm = true
  tab : TabOk Γ.T X.prog X.w X.K X.mg X.base J.ca lv
  room : Γ.hot = false → Room lv X.A
  hotc : Γ.hot = true → L2H.HotC X ∧ L2H.RoomH lv X.A
  pass : Passes (L2N.CX X.prog X.w) X J.E
  own : PassesOwn (model X.prog X.w) X.A X.env X.xe
  takes : L2N.Takes X (fun cls d _ H => J.E cls d H)
/-- the judgements by data -/
def Den (J : Jd) (f : Ev) : TE := fun σ H Q => ∃ W ρ, W.H = H ∧ Sim J.K J.ca W ∧ EnvR J.K W ρ σ ∧ Post J W (f ρ W.S) Q
def DenT (J : Jd) (f : EvB) : TT := fun σ H Q => ∃ W ρ, W.H = H ∧ Sim J.K J.ca W ∧ EnvR J.K W ρ σ ∧ PostR J W RB (f ρ W.S) Q
def DenL (J : Jd) (f : EvL) : TA := fun σ H Q => ∃ W ρ, W.H = H ∧ Sim J.K J.ca W ∧ EnvR J.K W ρ σ ∧ PostR J W (RL J) (f ρ W.S) Q
section
variable {X : Cx} {J : Jd} {e : Expr} {es : List Expr}
theorem pe_by {f : Ev} (h : ∀ W ρ σ Q, Sim J.K J.ca W → EnvR J.K W ρ σ → Post J W (f ρ W.S) Q → ∃ t, PE X e t ∧ t σ W.H Q) : PE X e (Den J f) :=
  ⟨fun pins s σ H Q I ⟨W, ρ, hH, sm, er, p⟩ => by subst hH; obtain ⟨t, ht, q⟩ := h W ρ σ Q sm er p; exact ht.run pins s σ _ Q I q⟩
theorem pt_by {f : EvB} (h : ∀ W ρ σ Q, Sim J.K J.ca W → EnvR J.K W ρ σ → PostR J W RB (f ρ W.S) Q → ∃ t, PT X e t ∧ t σ W.H Q) : PT X e (DenT J f) :=
  ⟨fun pins s σ H Q I ⟨W, ρ, hH, sm, er, p⟩ => by subst hH; obtain ⟨t, ht, q⟩ := h W ρ σ Q sm er p; exact ht.run pins s σ _ Q I q⟩
theorem pw_by {f : EvB} (h : ∀ W ρ σ Q, Sim J.K J.ca W → EnvR J.K W ρ σ → PostR J W RB (f ρ W.S) Q → ∃ t, PW X e t ∧ t σ W.H Q) : PW X e (DenT J f) :=
  ⟨fun wh pins s σ H Q I ⟨W, ρ, hH, sm, er, p⟩ => by subst hH; obtain ⟨t, ht, q⟩ := h W ρ σ Q sm er p; exact ht.run wh pins s σ _ Q I q⟩
theorem pa_by {f : EvL} (h : ∀ W ρ σ Q, Sim J.K J.ca W → EnvR J.K W ρ σ → PostR J W (RL J) (f ρ W.S) Q → ∃ t, PA X es t ∧ t σ W.H Q) : PA X es (DenL J f) :=
  ⟨fun pos pins s σ H Q I ⟨W, ρ, hH, sm, er, p⟩ => by subst hH; obtain ⟨t, ht, q⟩ := h W ρ σ Q sm er p; exact ht.run pos pins s σ _ Q I q⟩
theorem pe_fail : PE X e (Den J fun _ _ => .fail) := pe_by fun _ _ _ _ _ _ p => p.elim
theorem pt_fail : PT X e (DenT J fun _ _ => .fail) := pt_by fun _ _ _ _ _ _ p => p.elim
/-- an expression, then more -/
theorem den_bind {W : Wd} {ρ : EnvD} {σ : L2.St} {f : Ev} {γ δ : Type} {R' : Wd → γ → δ → Prop} {k : D → Store → Res γ} {Q : δ → Hp → Prop} (sm : Sim J.K J.ca W) (er : EnvR J.K W ρ σ) (p : PostR J W R' ((f ρ W.S).bind k) Q) {Q' : VK}
    (h : ∀ W1 d v, Ext W W1 → Sim J.K J.ca W1 → EnvR J.K W1 ρ σ → Rep J.K W1 d v → PostR J W1 R' (k d W1.S) Q → Q' v W1.H) : Den J f σ W.H Q' :=
  ⟨W, ρ, rfl, sm, er, p.bind.imp fun v H' ⟨W1, d, h1, h2, h3, h4, h5⟩ => by subst h1; exact h W1 d v h2 h3 (er.ext sm h2) h4 h5⟩
theorem denT_bind {W : Wd} {ρ : EnvD} {σ : L2.St} {f : EvB} {γ δ : Type} {R' : Wd → γ → δ → Prop} {k : Bool → Store → Res γ} {Q : δ → Hp → Prop} (sm : Sim J.K J.ca W) (er : EnvR J.K W ρ σ) (p : PostR J W R' ((f ρ W.S).bind k) Q) {Q' : Bool → Hp → Prop}
    (h : ∀ W1 b, Ext W W1 → Sim J.K J.ca W1 → EnvR J.K W1 ρ σ → PostR J W1 R' (k b W1.S) Q → Q' b W1.H) : DenT J f σ W.H Q' :=
  ⟨W, ρ, rfl, sm, er, p.bind.imp fun v H' ⟨W1, d, h1, h2, h3, h4, h5⟩ => by subst h1; cases (show d = v from h4); exact h W1 _ h2 h3 (er.ext sm h2) h5⟩
theorem denL_bind {W : Wd} {ρ : EnvD} {σ : L2.St} {f : EvL} {γ δ : Type} {R' : Wd → γ → δ → Prop} {k : List D → Store → Res γ} {Q : δ → Hp → Prop} (sm : Sim J.K J.ca W) (er : EnvR J.K W ρ σ) (p : PostR J W R' ((f ρ W.S).bind k) Q) {Q' : List V → Hp → Prop}
    (h : ∀ W1 ds vs, Ext W W1 → Sim J.K J.ca W1 → EnvR J.K W1 ρ σ → Reps J.K W1 ds vs → PostR J W1 R' (k ds W1.S) Q → Q' vs W1.H) : DenL J f σ W.H Q' :=
  ⟨W, ρ, rfl, sm, er, p.bind.imp fun v H' ⟨W1, d, h1, h2, h3, h4, h5⟩ => by subst h1; exact h W1 d v h2 h3 (er.ext sm h2) h4 h5⟩
end
section
variable {X : Cx} {J : Jd} {Γ : Gm} {lv : Nat} {r : Expr → Ev} {t : Expr → EvB}
theorem not_star {e : Expr} {es : List Expr} {env : Env} (h : isStar e = false) : starEach (e :: es) env = (false, eval e env) :: starEach es env := by
  cases e <;> first | rfl | cases h
theorem noStar_cons {e : Expr} {es : List Expr} (h : noStar (e :: es) = true) : isStar e = false ∧ noStar es = true := by
  unfold noStar at h ⊢
  rw [List.all_cons, Bool.and_eq_true] at h
  exact ⟨by simpa using h.1, h.2⟩
theorem star_none : ∀ {es : List Expr} {env : Env} {pos : Pos}, noStar es = true → (backTo pos (starEach es env)).any (·.1) = false
  | [], _, _, _ => rfl
  | e :: es, env, pos, h => by
    obtain ⟨h1, h2⟩ := noStar_cons h
    rw [not_star h1]
    show (false || (backTo pos (starEach es env)).any (·.1)) = false
    rw [star_none h2]
    rfl
/-- arguments -/
theorem pa_evL' (ih : ∀ e, PE X e (Den J (r e))) : ∀ {es : List Expr}, noStar es = true → PA X es (DenL J (evL' r es))
  | [], _ => pa_by fun W ρ σ Q sm er p => ⟨_, pa_nil, p.val sm rfl⟩
  | e :: es, h => by
    obtain ⟨h1, h2⟩ := noStar_cons h
    refine pa_by fun W ρ σ Q sm er p => ⟨_, pa_cons (ih e) (pa_evL' ih h2) (not_star h1), ?_⟩
    refine den_bind sm er p fun W1 d v e1 s1 r1 v1 p1 => ?_
    refine denL_bind s1 r1 p1 fun W2 ds vs e2 s2 r2 v2 p2 => ?_
    exact p2.val s2 ⟨v, vs, rfl, v1.mono s1 e2, v2⟩
theorem pa_evL (ih : ∀ e, PE X e (Den J (r e))) {es : List Expr} (h : noStar es = true) : PA X es (DenL J (evL r es)) := by
  unfold evL
  rw [if_pos h]
  exact pa_evL' ih h
theorem evL_cases {es : List Expr} {ρ : EnvD} {W : Wd} {γ δ : Type} {R' : Wd → γ → δ → Prop} {k : List D → Store → Res γ} {Q : δ → Hp → Prop} (p : PostR J W R' ((evL r es ρ W.S).bind k) Q) : noStar es = true := by
  cases h : noStar es with
  | true => rfl
  | false => unfold evL at p; rw [h] at p; exact p.elim
end
end E

set_option linter.all false
set_option maxRecDepth 100000
set_option maxHeartbeats 4000000
/- Evaluator E, part G: the cases of an expression. -/
namespace E
open PySem PySem.Spec PyProof.Rows L2
section
variable {X : Cx} {J : Jd} {Γ : Gm} {lv : Nat} {r : Expr → Ev} {t : Expr → EvB}
theorem kd_eq (G : Good Γ J X lv) (x : Str) : X.env.kindOf x = Γ.sc.names.lookup x := by
  show X.env.scope.names.lookup x = _
  rw [G.sc]
theorem slot_at (G : Good Γ J X lv) {x : Str} {i : Nat} (h : Γ.slot x = some i) : X.N[i]? = some x ∧ Vis X.env.scope x := by
  have key : ∀ {i : Nat}, Γ.N.idxOf? x = some i → X.N[i]? = some x := fun {i} q => by
    rw [G.N]
    obtain ⟨h1, h2, _⟩ := List.idxOf?_eq_some_iff.mp q
    rw [List.getElem?_eq_getElem h1]
    exact congrArg some h2
  have e : X.env.scope.names.lookup x = Γ.sc.names.lookup x := by rw [G.sc]
  unfold Gm.slot at h
  unfold Vis
  rw [e]
  split at h
  · exact ⟨key h, .inl (by assumption)⟩
  · exact ⟨key h, .inr (.inl (by assumption))⟩
  · exact ⟨key h, .inr (.inr (by assumption))⟩
  · cases h
theorem okName_at {x : Str} (h : okName x = true) : (x == ("__debug__" : Str)) = false ∧ (x == ("__classdict__" : Str)) = false ∧ x ≠ "__name__" := by
  unfold okName at h
  simp only [Bool.and_eq_true, Bool.not_eq_true'] at h
  exact ⟨h.1.1, h.1.2, fun e => by rw [e] at h; simp at h⟩
theorem isGl_at (G : Good Γ J X lv) {x : Str} (h : Γ.isGl x = true) : Gl X x ∧ okName x = true := by
  unfold Gm.isGl at h
  split at h
  · rename_i q
    exact ⟨(kd_eq G x).trans q, h⟩
  · cases h
theorem d_const {c : Const} {k : Nat} {pos : Pos} : PE X (.Constant c k pos) (Den J (constE c)) := by
  refine pe_by fun W ρ σ Q sm er p => ?_
  cases c with
  | int i => exact ⟨_, pe_int, p.val sm rfl⟩
  | str i => exact ⟨_, pe_str, p.val sm rfl⟩
  | bool i => exact ⟨_, pe_bl, p.val sm rfl⟩
  | none => exact ⟨_, pe_non, p.val sm rfl⟩
  | _ => exact p.elim
theorem d_name (G : Good Γ J X lv) {x : Str} {pos : Pos} : PE X (.Name x pos) (Den J (nameE Γ x)) := by
  refine pe_by fun W ρ σ Q sm er p => ?_
  unfold nameE at p
  split at p
  · rename_i i hi
    split at p
    · rename_i hx
      obtain ⟨h1, h2, h3⟩ := okName_at hx
      obtain ⟨h4, h5⟩ := slot_at G hi
      unfold getE at p
      split at p
      · rename_i d hd
        obtain ⟨v, h6, h7⟩ := er.2 i d hd
        exact ⟨_, pe_var h4 h5 h1 h2, v, h6, p.val sm h7⟩
      · exact p.elim
    · exact p.elim
  · split at p
    · rename_i hg
      obtain ⟨g1, g2⟩ := isGl_at G hg
      obtain ⟨h1, _, _⟩ := okName_at g2
      split at p
      · rename_i d hd
        obtain ⟨u, v, h4, h5, h6⟩ := G.tab.glob x d hd
        exact ⟨_, pe_glob g1 h4 h5 h1, p.val sm (show Rep J.K W d v by rw [G.K]; exact h6 W)⟩
      · exact p.elim
    · exact p.elim
theorem d_bin (G : Good Γ J X lv) (ih : ∀ e, PE X e (Den J (r e))) {a b : Expr} {op : Operator} {pos : Pos} : PE X (.BinOp a op b pos) (Den J fun ρ S => (r a ρ S).bind fun d S1 => (r b ρ S1).bind fun e S2 => binD op d e S2) := by
  refine pe_by fun W ρ σ Q sm er p => ⟨_, pe_op (ok_bin G.K op) (ih a) (ih b), ?_⟩
  refine den_bind sm er p fun W1 d v e1 s1 r1 v1 p1 => ?_
  refine den_bind s1 r1 p1 fun W2 e u e2 s2 r2 v2 p2 => ?_
  exact ⟨W2, d, e, rfl, s2, v1.mono s1 e2, v2, p2⟩
theorem d_neg (ih : ∀ e, PE X e (Den J (r e))) {a : Expr} {pos : Pos} : PE X (.UnaryOp .USub a pos) (Den J fun ρ S => (r a ρ S).bind negD) := by
  refine pe_by fun W ρ σ Q sm er p => ⟨_, pe_un un_neg (ih a), ?_⟩
  refine den_bind sm er p fun W1 d v e1 s1 r1 v1 p1 => ?_
  unfold negD at p1
  split at p1
  · rename_i i
    cases (show v = _ from v1)
    exact ⟨i, rfl, p1.val s1 rfl⟩
  · exact p1.elim
/-- a value, its truth, the rest -/
theorem tru_bind (G : Good Γ J X lv) {W : Wd} {ρ : EnvD} {σ : L2.St} {f : Ev} {γ δ : Type} {R' : Wd → γ → δ → Prop} {k : Bool → Store → Res γ} {Q : δ → Hp → Prop} (sm : Sim J.K J.ca W) (er : EnvR J.K W ρ σ)
    (p : PostR J W R' ((truE f ρ W.S).bind k) Q) {Q' : Bool → Hp → Prop} (h : ∀ W1 b, Ext W W1 → Sim J.K J.ca W1 → EnvR J.K W1 ρ σ → PostR J W1 R' (k b W1.S) Q → Q' b W1.H) : Den J f σ W.H fun x H1 => ∃ b, TruV X.K x H1 b ∧ Q' b H1 := by
  unfold truE at p
  have p' : PostR J W R' ((f ρ W.S).bind fun d S1 => Res.bind (match truD S1 d with | some b => .ok b S1 | none => .fail) k) Q := by
    cases hr : f ρ W.S <;> rw [hr] at p <;> exact p
  refine den_bind sm er p' fun W1 d v e1 s1 r1 v1 p1 => ?_
  split at p1
  · rename_i b hb
    exact ⟨b, truD_at G.K s1 hb v1, h W1 b e1 s1 r1 p1⟩
  · exact p1.elim
theorem d_not (G : Good Γ J X lv) (ih : ∀ e, PE X e (Den J (r e))) {a : Expr} {pos : Pos} : PE X (.UnaryOp .Not a pos) (Den J fun ρ S => (truE (r a) ρ S).bind fun b S1 => .ok (.bl (!b)) S1) := by
  refine pe_by fun W ρ σ Q sm er p => ⟨_, pe_notT (ih a), ?_⟩
  exact tru_bind G (Q' := fun b H => Q (.bl (!b)) H) sm er p fun W1 b e1 s1 r1 p1 => p1.val s1 rfl
theorem bool_one {op : BoolOp} {a : Expr} {pos : Pos} {te : TE} (h : PE X a te) : PE X (.BoolOp op [a] pos) te := by
  refine ⟨fun pins s σ H Q I q => ?_⟩
  have e : eval (.BoolOp op [a] pos) X.env = eval a X.env := by simp [eval, boolOp, evalEach]
  rw [e]
  exact h.run pins s σ H Q I q
theorem d_and (G : Good Γ J X lv) (ih : ∀ e, PE X e (Den J (r e))) {pos : Pos} : ∀ {es : List Expr}, PE X (.BoolOp .And es pos) (Den J (andE r es))
  | [] => pe_fail
  | [a] => bool_one (ih a)
  | a :: b :: es => by
    refine pe_by fun W ρ σ Q sm er p => ⟨_, pe_andT (ih a) (d_and G ih (es := b :: es)), ?_⟩
    refine den_bind sm er p fun W1 d v e1 s1 r1 v1 p1 => ?_
    split at p1
    · rename_i hb
      exact ⟨true, truD_at G.K s1 hb v1, W1, ρ, rfl, s1, r1, p1⟩
    · rename_i hb
      exact ⟨false, truD_at G.K s1 hb v1, p1.val s1 v1⟩
    · exact p1.elim
theorem d_or (G : Good Γ J X lv) (ih : ∀ e, PE X e (Den J (r e))) {pos : Pos} : ∀ {es : List Expr}, PE X (.BoolOp .Or es pos) (Den J (orE r es))
  | [] => pe_fail
  | [a] => bool_one (ih a)
  | a :: b :: es => by
    refine pe_by fun W ρ σ Q sm er p => ⟨_, pe_orT (ih a) (d_or G ih (es := b :: es)), ?_⟩
    refine den_bind sm er p fun W1 d v e1 s1 r1 v1 p1 => ?_
    split at p1
    · rename_i hb
      exact ⟨false, truD_at G.K s1 hb v1, W1, ρ, rfl, s1, r1, p1⟩
    · rename_i hb
      exact ⟨true, truD_at G.K s1 hb v1, p1.val s1 v1⟩
    · exact p1.elim
theorem d_andT (ih : ∀ e, PT X e (DenT J (t e))) {pos : Pos} : ∀ {es : List Expr}, PW X (.BoolOp .And es pos) (DenT J (andT t es))
  | [] => pw_by fun _ _ _ _ _ _ p => p.elim
  | [a] => pw_and1 (ih a)
  | a :: b :: es => by
    refine pw_by fun W ρ σ Q sm er p => ⟨_, pw_and (ih a) (d_andT ih (es := b :: es)), ?_⟩
    refine denT_bind sm er p fun W1 c e1 s1 r1 p1 => ?_
    cases c with
    | true => exact ⟨W1, ρ, rfl, s1, r1, p1⟩
    | false => exact p1.val s1 rfl
theorem d_orT (ih : ∀ e, PT X e (DenT J (t e))) {pos : Pos} : ∀ {es : List Expr}, PW X (.BoolOp .Or es pos) (DenT J (orT t es))
  | [] => pw_by fun _ _ _ _ _ _ p => p.elim
  | [a] => pw_or1 (ih a)
  | a :: b :: es => by
    refine pw_by fun W ρ σ Q sm er p => ⟨_, pw_or (ih a) (d_orT ih (es := b :: es)), ?_⟩
    refine denT_bind sm er p fun W1 c e1 s1 r1 p1 => ?_
    cases c with
    | true => exact p1.val s1 rfl
    | false => exact ⟨W1, ρ, rfl, s1, r1, p1⟩
theorem d_cmp (G : Good Γ J X lv) (ih : ∀ e, PE X e (Den J (r e))) {a b : Expr} {op : CmpOp} {pos : Pos} : PE X (.Compare a [op] [b] pos) (Den J (cmpE op r a b)) := by
  refine pe_by fun W ρ σ Q sm er p => ?_
  unfold cmpE at p
  split at p
  · exact p.elim
  · rename_i hb
    refine ⟨_, pe_cmpR (ok_cmp G.K op) (ih a) (ih b) (by simpa using hb), ?_⟩
    refine den_bind sm er p fun W1 d v e1 s1 r1 v1 p1 => ?_
    refine den_bind s1 r1 p1 fun W2 e u e2 s2 r2 v2 p2 => ?_
    exact ⟨W2, d, e, rfl, s2, v1.mono s1 e2, v2, p2⟩
theorem d_cmpT (G : Good Γ J X lv) (ih : ∀ e, PE X e (Den J (r e))) {a b : Expr} {op : CmpOp} {pos : Pos} : PT X (.Compare a [op] [b] pos) (DenT J fun ρ S => (cmpE op r a b ρ S).bind fun d S1 => (match d with | .bl b => .ok b S1 | _ => .fail)) := by
  refine pt_by fun W ρ σ Q sm er p => ?_
  unfold cmpE at p
  split at p
  · exact p.elim
  · rename_i hb
    refine ⟨_, pt_cmpR (ok_cmp G.K op) (ih a) (ih b) (by simpa using hb), ?_⟩
    have p' : PostR J W RB ((r a ρ W.S).bind fun d S1 => (r b ρ S1).bind fun e S2 => (cmpD op d e S2).bind fun d S1 => (match d with | .bl b => .ok b S1 | _ => .fail)) Q := by
      cases hr : r a ρ W.S with
      | ok d S1 =>
        rw [hr] at p
        show PostR J W RB ((r b ρ S1).bind _) Q
        have p : PostR J W RB (Res.bind ((r b ρ S1).bind fun e S2 => cmpD op d e S2) _) Q := p
        cases hr2 : r b ρ S1 <;> rw [hr2] at p <;> exact p
      | exc c fs S1 => rw [hr] at p; exact p
      | fail => rw [hr] at p; exact p
    refine den_bind sm er p' fun W1 d v e1 s1 r1 v1 p1 => ?_
    refine den_bind s1 r1 p1 fun W2 e u e2 s2 r2 v2 p2 => ?_
    refine ⟨W2, d, e, rfl, s2, v1.mono s1 e2, v2, ?_⟩
    refine p2.bind.imp fun x H' ⟨W3, d3, h1, h2, h3, h4, h5⟩ => ?_
    subst h1
    split at h5
    · cases (show x = _ from h4); exact ⟨_, rfl, h5.val h3 rfl⟩
    · exact h5.elim
theorem d_ifexp (ih : ∀ e, PE X e (Den J (r e))) (iht : ∀ e, PT X e (DenT J (t e))) {c a b : Expr} {pos : Pos} : PE X (.IfExp c a b pos) (Den J fun ρ S => (t c ρ S).bind fun t S1 => if t then r a ρ S1 else r b ρ S1) := by
  refine pe_by fun W ρ σ Q sm er p => ⟨_, pe_ifExp (iht c) (ih a) (ih b), ?_⟩
  refine denT_bind sm er p fun W1 c e1 s1 r1 p1 => ?_
  cases c with
  | true => exact ⟨W1, ρ, rfl, s1, r1, p1⟩
  | false => exact ⟨W1, ρ, rfl, s1, r1, p1⟩
theorem d_tuple (ih : ∀ e, PE X e (Den J (r e))) {es : List Expr} {k : Nat} {pos : Pos} : PE X (.Tuple es k pos) (Den J fun ρ S => (evL r es ρ S).bind fun ds S1 => if ds.length ≤ sizeLine then .ok (.tup ds) S1 else .fail) := by
  refine pe_by fun W ρ σ Q sm er p => ⟨_, pe_tup (pa_evL ih (evL_cases p)), ?_⟩
  refine denL_bind sm er p fun W1 ds vs e1 s1 r1 v1 p1 => ?_
  split at p1
  · rename_i hz
    exact ⟨by rw [v1.length]; exact hz, post_tup s1 v1 p1⟩
  · exact p1.elim
theorem d_list (ih : ∀ e, PE X e (Den J (r e))) {es : List Expr} {pos : Pos} : PE X (.List es pos) (Den J fun ρ S => (evL r es ρ S).bind fun ds S1 => if ds.length ≤ sizeLine then newL ds S1 else .fail) := by
  refine pe_by fun W ρ σ Q sm er p => ⟨_, pe_lst (pa_evL ih (evL_cases p)), ?_⟩
  refine denL_bind sm er p fun W1 ds vs e1 s1 r1 v1 p1 => ?_
  split at p1
  · rename_i hz
    exact ⟨by rw [v1.length]; exact hz, post_list s1 v1 p1⟩
  · exact p1.elim
/-- a slice's part -/
def RO : Wd → Option Int → Option Int → Prop := fun _ a b => a = b
theorem po_part (ih : ∀ e, PE X e (Den J (r e))) : ∀ (o : Option Expr), PO X o (fun σ H Q => ∃ W ρ, W.H = H ∧ Sim J.K J.ca W ∧ EnvR J.K W ρ σ ∧ PostR J W RO (partE r o ρ W.S) Q)
  | none => ⟨fun pins s σ H Q I ⟨W, ρ, hH, sm, er, p⟩ => po_none.run pins s σ H Q I (by subst hH; exact p.val sm rfl)⟩
  | some e => ⟨fun pins s σ H Q I ⟨W, ρ, hH, sm, er, p⟩ => (po_some (ih e)).run pins s σ H Q I (by
      subst hH
      refine den_bind sm er p fun W1 d v e1 s1 r1 v1 p1 => ?_
      split at p1
      · rename_i i
        cases (show v = _ from v1)
        exact ⟨i, rfl, p1.val s1 rfl⟩
      · exact p1.elim)⟩
theorem d_slice (G : Good Γ J X lv) (ih : ∀ e, PE X e (Den J (r e))) {a : Expr} {lo hi : Option Expr} {p2 pos : Pos} : PE X (.Subscript a (.Slice lo hi none p2) pos) (Den J (sliceE r a lo hi)) := by
  refine pe_by fun W ρ σ Q sm er p => ⟨_, pe_slice (ok_sl G.K) (ih a) (po_part ih lo) (po_part ih hi), ?_⟩
  refine den_bind sm er p fun W1 d v e1 s1 r1 v1 p1 => ?_
  refine ⟨W1, ρ, rfl, s1, r1, p1.bind.imp fun l H2 ⟨W2, l', h1, e2, s2, h4, p2⟩ => ?_⟩
  subst h1
  cases (show l' = l from h4)
  refine ⟨W2, ρ, rfl, s2, r1.ext s1 e2, p2.bind.imp fun u H3 ⟨W3, u', h1, e3, s3, h4, p3⟩ => ?_⟩
  subst h1
  cases (show u' = u from h4)
  exact ⟨W3, d, rfl, s3, (v1.mono s1 e2).mono s2 e3, p3⟩
theorem plainIx {b : Expr} (h : isSlice b = false) : PlainIx b := by
  intro o i
  cases b <;> first | rfl | cases h
theorem d_ix (G : Good Γ J X lv) (ih : ∀ e, PE X e (Den J (r e))) {a b : Expr} {pos : Pos} : PE X (.Subscript a b pos) (Den J fun ρ S => if isSlice b then .fail else (r a ρ S).bind fun d S1 => (r b ρ S1).bind fun e S2 => ixD d e S2) := by
  refine pe_by fun W ρ σ Q sm er p => ?_
  split at p
  · exact p.elim
  · rename_i hb
    refine ⟨_, pe_ix (ok_ix G.K) (ih a) (ih b) (plainIx (by simpa using hb)), ?_⟩
    refine den_bind sm er p fun W1 d v e1 s1 r1 v1 p1 => ?_
    refine den_bind s1 r1 p1 fun W2 e u e2 s2 r2 v2 p2 => ?_
    exact ⟨W2, d, e, rfl, s2, v1.mono s1 e2, v2, p2⟩
theorem abase {o : Expr} {f : Str} {env : Env} {whole : Sem Value} (h : isCall0 o = false) : attributeBase o f env whole = whole := by
  unfold attributeBase
  split
  · cases h
  · rfl
theorem insL_at {W : Wd} (sm : Sim J.K J.ca W) {d : D} {C : Str} {fs : List (Str × D)} {x : V} (h : insL W.S d = some (C, fs)) (rd : Rep J.K W d x) : ∃ a dx fv, x = .ref a ∧ W.H a = some (.ins (J.ca C) dx fv) ∧ RepF J.K W fs fv := by
  cases d with
  | ref n =>
    have h : cellI W.S n = some (C, fs) := h
    unfold cellI at h
    split at h
    · rename_i C' fs' q2
      cases h
      obtain ⟨a, dx, fv, h1, _, h2, h3⟩ := sm.ins_at q2 rd
      exact ⟨a, dx, fv, h1, h2, h3⟩
    · cases h
  | _ => cases h
theorem d_attr (G : Good Γ J X lv) (ih : ∀ e, PE X e (Den J (r e))) {o : Expr} {f : Str} {pos : Pos} : PE X (.Attribute o f pos) (Den J fun ρ S => if isCall0 o then .fail else (r o ρ S).bind fun d S1 => attrE Γ.T f d S1) := by
  refine pe_by fun W ρ σ Q sm er p => ?_
  split at p
  · exact p.elim
  · rename_i hb
    refine ⟨_, pe_fld (ih o) (abase (by simpa using hb)), ?_⟩
    refine den_bind sm er p fun W1 d v e1 s1 r1 v1 p1 => ?_
    unfold attrE at p1
    split at p1
    · rename_i C fs hi
      split at p1
      · rename_i ha
        split at p1
        · rename_i y hy
          obtain ⟨a, dx, fv, rfl, h2, h3⟩ := insL_at s1 hi v1
          obtain ⟨c1, c2⟩ := G.tab.attr C f ha
          obtain ⟨yv, h4, h5⟩ := h3.look hy
          exact ⟨a, _, dx, fv, yv, rfl, h2, c1, c2, h4, p1.val s1 h5⟩
        · exact p1.elim
      · exact p1.elim
    · exact p1.elim
end
end E

set_option linter.all false
set_option maxRecDepth 100000
set_option maxHeartbeats 4000000
/- Evaluator E, part H: calls. -/
namespace E
open PySem PySem.Spec PyProof.Rows L2
section
variable {X : Cx} {J : Jd} {Γ : Gm} {lv : Nat} {r : Expr → Ev} {t : Expr → EvB}
theorem jd_eta (h : J.K = X.K) : (⟨X.K, J.ca, J.E⟩ : Jd) = J := by rw [← h]
/-- behind the arguments -/
theorem call_end (hK : J.K = X.K) {W : Wd} {f : Sem1} {ds : List D} {vs : List V} {Q : VK} (sm : Sim J.K J.ca W) (r : Reps J.K W ds vs) (p : Post J W (f ds W.S) Q) : spD X.K J.ca f vs W.H Q J.E := by
  refine ⟨W, ds, rfl, ?_, ?_, ?_⟩
  · rw [← hK]; exact sm
  · rw [← hK]; exact r
  · rw [jd_eta hK]; exact p
/-- an own def called -/
theorem d_call (G : Good Γ J X lv) (hh : Γ.hot = false) (ih : ∀ e, PE X e (Den J (r e))) {x : Str} {es : List Expr} {f : Sem1} {p pos : Pos} (hg : Gl X x) (hx : okName x = true) (hf : Γ.T.call x = some f) :
    PE X (.Call (.Name x p) es [] pos) (Den J fun ρ S => (evL r es ρ S).bind f) := by
  obtain ⟨a, fd, ps, h1, h2, h3, h4⟩ := G.tab.call x f hf
  obtain ⟨n1, n2, n3⟩ := okName_at hx
  refine pe_by fun W ρ σ Q sm er q => ?_
  cases es with
  | nil => exact ⟨_, pe_call0 h4 (G.room hh) hg h1 h2 h3 .nil G.pass n1, call_end G.K sm (show Reps J.K W [] [] from rfl) q⟩
  | cons e es =>
    obtain ⟨m1, m2⟩ := noStar_cons (evL_cases q)
    refine ⟨_, pe_call h4 (G.room hh) hg h1 h2 h3 .nil G.pass (pa_evL ih (evL_cases q)) n1 (not_star m1) (star_none m2), ?_⟩
    refine denL_bind sm er q fun W1 ds vs e1 s1 r1 v1 p1 => ?_
    rw [List.append_nil]
    exact call_end G.K s1 v1 p1
/-- the world with a new instance -/
theorem new_ins {W : Wd} {C : Str} {x dx : Addr} (sm : Sim J.K J.ca W) (hx : W.H x = none) (hd : W.H dx = none) (hn : dx ≠ x) :
    let H' := upd (upd W.H dx (.own x)) x (.ins (J.ca C) dx [])
    Ext W (W.laid x (.ins C []) H') ∧ Sim J.K J.ca (W.laid x (.ins C []) H') := by
  intro H'
  have hs : Same W.H H' := fun b o h => by
    show upd (upd W.H dx (.own x)) x _ b = some o
    rw [upd_ne (ne_of_none h hx), upd_ne (ne_of_none h hd)]
    exact h
  exact ⟨Ext.laid hx hs, sm.laid hx hs ⟨dx, [], upd_same, rfl⟩⟩
theorem make_end (hK : J.K = X.K) {W : Wd} {C : Str} {f : Sem1} {ds : List D} {vs : List V} {Q : VK} (sm : Sim J.K J.ca W) (rv : Reps J.K W ds vs) (p : Post J W (makeE f C ds W.S) Q) :
    ∀ x dx, W.H x = none → W.H dx = none → dx ≠ x → spD X.K J.ca f (.ref x :: vs) (upd (upd W.H dx (.own x)) x (.ins (J.ca C) dx [])) (fun v H2 => v = .non ∧ Q (.ref x) H2) J.E := fun x dx hx hd hn => by
  obtain ⟨e, s'⟩ := new_ins (C := C) sm hx hd hn
  have r' : Reps J.K (W.laid x (.ins C []) (upd (upd W.H dx (.own x)) x (.ins (J.ca C) dx []))) (.ref W.S.length :: ds) (.ref x :: vs) := ⟨_, _, rfl, Rep.laid, rv.mono sm e⟩
  refine call_end hK (W := W.laid x (.ins C []) (upd (upd W.H dx (.own x)) x (.ins (J.ca C) dx []))) s' r' ?_
  have p := p.ext e
  unfold makeE at p
  refine p.bind.imp fun v H2 ⟨W2, d, h1, h2, h3, h4, h5⟩ => ?_
  subst h1
  split at h5
  · cases (show v = _ from h4)
    exact ⟨rfl, h5.val h3 (Rep.mono s' h2 Rep.laid)⟩
  · exact h5.elim
/-- an own class called -/
theorem d_make (G : Good Γ J X lv) (hh : Γ.hot = false) (ih : ∀ e, PE X e (Den J (r e))) {x : Str} {es : List Expr} {f : Sem1} {p pos : Pos} (hg : Gl X x) (hx : okName x = true) (hf : Γ.T.make x = some f) :
    PE X (.Call (.Name x p) es [] pos) (Den J fun ρ S => (evL r es ρ S).bind (makeE f x)) := by
  obtain ⟨a, fd, ps, k, hk, h1, h2, h3, h4⟩ := G.tab.make x f hf
  obtain ⟨n1, n2, n3⟩ := okName_at hx
  have hr : Room (k + 1) X.A := by rw [hk]; exact G.room hh
  refine pe_by fun W ρ σ Q sm er q => ?_
  cases es with
  | nil => exact ⟨_, pe_make0 h2 h4 hr hg h1 h3 .nil G.pass n1, make_end G.K sm (show Reps J.K W [] [] from rfl) q⟩
  | cons e es =>
    obtain ⟨m1, m2⟩ := noStar_cons (evL_cases q)
    refine ⟨_, pe_make h2 h4 hr hg h1 h3 .nil G.pass (pa_evL ih (evL_cases q)) n1 (not_star m1) (star_none m2), ?_⟩
    refine denL_bind sm er q fun W1 ds vs e1 s1 r1 v1 p1 => ?_
    rw [List.append_nil]
    exact make_end G.K s1 v1 p1
theorem tyF_at {x : Str} {T : String} (h : tyF x = some T) : bootBuiltins x = some (.type T) ∧ x ≠ "__name__" ∧ (x == ("__debug__" : Str)) = false := by
  unfold tyF at h
  repeat' split at h
  all_goals first
    | (rename_i e; cases h; subst e; exact ⟨by decide +kernel, by decide +kernel, by decide +kernel⟩)
    | cases h
theorem biF_at (hK : J.K = X.K) (hc : X.calm = true) {x : Str} {b : BI} (h : biF x = some b) : ((∃ id, bootBuiltins x = some (.builtin id) ∧ CallR X (.builtin id) (rC J b.f)) ∨ ∃ T, bootBuiltins x = some (.type T) ∧ CallR X (.type T) (rC J b.f)) ∧ x ≠ "__name__" ∧ (x == ("__debug__" : Str)) = false := by
  unfold biF at h
  repeat' split at h
  · rename_i e; cases h; subst e; exact ⟨.inl ⟨"len", by decide +kernel, ok_len hK⟩, by decide +kernel, by decide +kernel⟩
  · rename_i e; cases h; subst e; exact ⟨.inl ⟨"abs", by decide +kernel, ok_abs⟩, by decide +kernel, by decide +kernel⟩
  · rename_i e; cases h; subst e; exact ⟨.inl ⟨"sum", by decide +kernel, ok_sum hK hc⟩, by decide +kernel, by decide +kernel⟩
  · rename_i e; cases h; subst e; exact ⟨.inr ⟨"str", by decide +kernel, ok_str⟩, by decide +kernel, by decide +kernel⟩
  · rename_i e; cases h; subst e; exact ⟨.inr ⟨"int", by decide +kernel, ok_int⟩, by decide +kernel, by decide +kernel⟩
  · rename_i e; cases h; subst e; exact ⟨.inr ⟨"list", by decide +kernel, ok_list hK⟩, by decide +kernel, by decide +kernel⟩
  · rename_i e; cases h; subst e; exact ⟨.inr ⟨"tuple", by decide +kernel, ok_tuple hK⟩, by decide +kernel, by decide +kernel⟩
  · cases h
/-- a built-in called -/
theorem d_bi (G : Good Γ J X lv) (hh : Γ.hot = false) (ih : ∀ e, PE X e (Den J (r e))) {x : Str} {e : Expr} {es : List Expr} {b : BI} {p pos : Pos} (hg : Gl X x) (hb : biF x = some b) (hm : x ∈ Γ.T.bis) :
    PE X (.Call (.Name x p) (e :: es) [] pos) (Den J fun ρ S => (evL r (e :: es) ρ S).bind b.f) := by
  obtain ⟨h, n3, n1⟩ := biF_at (J := J) G.K (G.calm hh) hb
  have hm' := G.tab.bis x hm
  refine pe_by fun W ρ σ Q sm er q => ?_
  obtain ⟨m1, m2⟩ := noStar_cons (evL_cases q)
  have fin : tCB (rC J b.f) (DenL J (evL r (e :: es))) σ W.H Q := denL_bind sm er q fun W1 ds vs e1 s1 r1 v1 p1 => ⟨W1, ds, rfl, s1, v1, p1⟩
  rcases h with ⟨id, h1, h2⟩ | ⟨T, h1, h2⟩
  · exact ⟨_, pe_callB h2 hg hm' h1 (pa_evL ih (evL_cases q)) n3 n1 (not_star m1) (star_none m2), fin⟩
  · exact ⟨_, pe_callTy h2 hg hm' h1 (pa_evL ih (evL_cases q)) n3 n1 (not_star m1) (star_none m2), fin⟩
/-- isinstance(e, T) -/
theorem d_isi (G : Good Γ J X lv) (ih : ∀ e, PE X e (Den J (r e))) {es : List Expr} {p pos : Pos} (hg : Gl X "isinstance") (hm : ("isinstance" : Str) ∈ Γ.T.bis) : PE X (.Call (.Name "isinstance" p) es [] pos) (Den J (isiE Γ r es)) := by
  refine pe_by fun W ρ σ Q sm er q => ?_
  unfold isiE at q
  split at q
  · rename_i e tn tp
    split at q
    · rename_i h
      rw [Bool.and_eq_true] at h
      have hm2 := G.tab.bis tn (of_decide_eq_true h.2)
      obtain ⟨g1, g2⟩ := isGl_at G h.1
      split at q
      · rename_i T hT
        obtain ⟨t1, t2, t3⟩ := tyF_at hT
        split at q
        · exact q.elim
        · rename_i hs
          refine ⟨_, pe_callB (ok_isi G.K T) hg (G.tab.bis _ hm) (by decide +kernel) (pa_cons (ih e) (pa_cons (pe_bltn (v := .ty T) g1 hm2 t1 rfl t2 t3) pa_nil) (not_star (by simpa using hs))) (by decide +kernel) (by decide +kernel) (not_star (by simpa using hs)), ?_⟩
          refine den_bind sm er q fun W1 d v e1 s1 r1 v1 p1 => ?_
          exact ⟨v, rfl, W1, [d], rfl, s1, ⟨v, [], rfl, v1, rfl⟩, p1⟩
      · exact q.elim
    · exact q.elim
  · exact q.elim
theorem d_calls (G : Good Γ J X lv) (hh : Γ.hot = false) (ih : ∀ e, PE X e (Den J (r e))) {x : Str} {es : List Expr} {p pos : Pos} : PE X (.Call (.Name x p) es [] pos) (Den J (callE Γ r x es)) := by
  unfold callE
  by_cases hg : Γ.isGl x = true
  · obtain ⟨g1, g2⟩ := isGl_at G hg
    simp only [hg, if_true]
    cases hc : Γ.T.call x with
    | some f => exact d_call G hh ih g1 g2 hc
    | none =>
      cases hk : Γ.T.make x with
      | some f => exact d_make G hh ih g1 g2 hk
      | none =>
        by_cases hm : x ∈ Γ.T.bis
        · simp only [decide_eq_true hm, if_true]
          by_cases hi : x = "isinstance"
          · subst hi
            simp only [if_true]
            exact d_isi G ih g1 hm
          · simp only [hi, if_false]
            cases es with
            | nil => exact pe_fail
            | cons e es =>
              cases hb : biF x with
              | some b => exact d_bi G hh ih g1 hb hm
              | none => exact pe_fail
        · simp only [decide_eq_false hm]
          exact pe_fail
  · simp only [hg]
    exact pe_fail
/-- a call where an exception is handled -/
theorem d_hot (G : Good Γ J X lv) (hh : Γ.hot = true) (ih : ∀ e, PE X e (Den J (r e))) {x : Str} {es : List Expr} {p pos : Pos} : PE X (.Call (.Name x p) es [] pos) (Den J (hotE Γ r x es)) := by
  unfold hotE
  by_cases hg : Γ.isGl x = true
  · obtain ⟨g1, g2⟩ := isGl_at G hg
    obtain ⟨n1, n2, n3⟩ := okName_at g2
    simp only [hg, if_true]
    cases hc : Γ.T.callH x with
    | some f =>
      obtain ⟨a, fd, ps, h1, h2, h3, h4⟩ := G.tab.callH x f hc
      cases es with
      | nil => exact pe_fail
      | cons e es =>
        refine pe_by fun W ρ σ Q sm er q => ?_
        have q : Post J W ((evL r (e :: es) ρ W.S).bind f) Q := q
        obtain ⟨m1, m2⟩ := noStar_cons (evL_cases q)
        refine ⟨_, L2H.pe_callH (E := fun _ => J.E) h4 (G.hotc hh).2 (G.hotc hh).1 g1 h1 h2 h3 (fun σ pins H s e s' I c => G.pass pins σ H s e s' I c) (pa_evL ih (evL_cases q)) n1 (not_star m1) (star_none m2), ?_⟩
        exact denL_bind sm er q fun W1 ds vs e1 s1 r1 v1 p1 => call_end G.K s1 v1 p1
    | none =>
      by_cases hm : x ∈ Γ.T.bis
      · simp only [decide_eq_true hm, if_true]
        by_cases hi : x = "isinstance"
        · subst hi
          simp only [if_true]
          exact d_isi G ih g1 hm
        · simp only [hi, if_false]
          by_cases hl : x = "len"
          · subst hl
            simp only [if_true]
            cases es with
            | nil => exact pe_fail
            | cons e es =>
              refine pe_by fun W ρ σ Q sm er q => ?_
              have q : Post J W ((evL r (e :: es) ρ W.S).bind lenD) Q := q
              obtain ⟨m1, m2⟩ := noStar_cons (evL_cases q)
              exact ⟨_, pe_callB (ok_len G.K) g1 (G.tab.bis _ hm) (by decide +kernel) (pa_evL ih (evL_cases q)) (by decide +kernel) (by decide +kernel) (not_star m1) (star_none m2), denL_bind sm er q fun W1 ds vs e1 s1 r1 v1 p1 => ⟨W1, ds, rfl, s1, v1, p1⟩⟩
          · simp only [hl, if_false]
            exact pe_fail
      · simp only [decide_eq_false hm]
        exact pe_fail
  · simp only [hg]
    exact pe_fail
/-! ### methods -/
theorem methG_at {o : Expr} {line : Bool} {es : List Expr} (h : methG o line es = true) : isCall0 o = false ∧ line = true ∧ es.length < 29 ∧ noStar es = true := by
  unfold methG at h
  simp only [Bool.and_eq_true, Bool.not_eq_true', decide_eq_true_eq] at h
  exact ⟨h.1.1.1, h.1.1.2, h.1.2, h.2⟩
theorem star_all : ∀ {es : List Expr} {env : Env} {pos : Pos}, noStar es = true → (backTo pos (starEach es env)).all (fun x => !x.1) = true
  | [], _, _, _ => rfl
  | e :: es, env, pos, h => by
    obtain ⟨h1, h2⟩ := noStar_cons h
    rw [not_star h1]
    show (true && (backTo pos (starEach es env)).all fun x => !x.1) = true
    rw [star_all h2]
    rfl
theorem meth_form {es : List Expr} {env : Env} {pos : Pos} (h1 : es.length < 29) (h2 : noStar es = true) :
    ((backTo pos (starEach es env)).all (fun x => !x.1) && (backToKw pos (keywordEach [] env)).all (fun x => x.1.isSome) && decide (es.length + ([] : List Keyword).length + (if ([] : List Keyword).isEmpty then 0 else 1) < 30)) = true := by
  rw [star_all h2]
  have e : decide (es.length + ([] : List Keyword).length + (if ([] : List Keyword).isEmpty then 0 else 1) < 30) = true := decide_eq_true (by show es.length + 0 + 0 < 30; omega)
  rw [e]
  rfl
theorem meth_eval {o : Expr} {m : Str} {es : List Expr} {apos pos : Pos} {env : Env} (ho : isCall0 o = false) (hl : (apos.endLine == pos.line) = true) (h1 : es.length < 29) (h2 : noStar es = true) :
    eval (.Call (.Attribute o m apos) es [] pos) env = (do
      let ov ← eval o env
      standAt apos.atName
      let (f, first) ← holding [ov] (getMethod ov m (do return (← importBound o env).getD true))
      callWith pos f first (backTo pos (starEach es env)) (backToKw pos (keywordEach [] env))) := by
  show (do
    let ov ← attributeBase o m env (eval o env)
    standAt apos.atName
    methodCall o m apos pos env ov (es.length + ([] : List Keyword).length) (backTo pos (starEach es env)) (backToKw pos (keywordEach [] env))) = _
  rw [abase ho]
  have hf : methodCallForm (es.length + ([] : List Keyword).length) (backTo pos (starEach es env)) (backToKw pos (keywordEach [] env)) = true := meth_form h1 h2
  unfold methodCall
  rw [hf]
  have hp : methodCallPos true o env apos pos = pure pos := by
    unfold methodCallPos
    rw [hl]
    rfl
  rw [hp]
  rfl
theorem bm0F_at {J : Jd} {X : Cx} {m : Str} {b : BM} (h : bm0F m = some b) : ∃ T id, PlainAttrs T ∧ Slot T m id ∧ typeOf (.builtin id) = pure (.type "method_descriptor") ∧ MtR X id (rM J b.f) ∧ (∀ W d x ds Q, Sim J.K J.ca W → Rep J.K W d x → J.K = X.K → Post J W (b.f d ds W.S) Q → tyV X.K T x W.H) := by
  unfold bm0F at h
  repeat' split at h
  · rename_i e; cases h; subst e
    refine ⟨"list", "list.pop", PySem.F.plainAttrs_list, PySem.F.slot_list_pop, PySem.F.type_list_pop, ok_pop, fun W d x ds Q sm rd hK p => ?_⟩
    have p : Post J W (popM d ds W.S) Q := p
    unfold popM at p
    split at p
    · split at p
      · rename_i cs hc
        obtain ⟨_, a, vs, rfl, _, ha, _⟩ := cellL_at sm hc rd
        exact .inl ⟨rfl, vs, SqL.of ha⟩
      · exact p.elim
    · exact p.elim
  · rename_i e; cases h; subst e
    refine ⟨"list", "list.reverse", PySem.F.plainAttrs_list, PySem.F.slot_list_reverse, PySem.F.type_list_reverse, ok_reverse, fun W d x ds Q sm rd hK p => ?_⟩
    have p : Post J W (reverseM d ds W.S) Q := p
    unfold reverseM at p
    split at p
    · split at p
      · rename_i cs hc
        obtain ⟨_, a, vs, rfl, _, ha, _⟩ := cellL_at sm hc rd
        exact .inl ⟨rfl, vs, SqL.of ha⟩
      · exact p.elim
    · exact p.elim
  · cases h
theorem bm1F_at {J : Jd} {X : Cx} (hK : J.K = X.K) {m : Str} {b : BM} (h : bm1F m = some b) : ∃ T id, PlainAttrs T ∧ Slot T m id ∧ typeOf (.builtin id) = pure (.type "method_descriptor") ∧ MtR X id (rM J b.f) ∧
    ∀ W d x, Sim J.K J.ca W → Rep J.K W d x → bmOk b W.S d = true → tyV X.K T x W.H := by
  unfold bm1F at h
  repeat' split at h
  · rename_i e; cases h; subst e
    refine ⟨"list", "list.append", PySem.F.plainAttrs_list, PySem.F.slot_list_append, PySem.F.type_list_append, ok_append, fun W d x sm rd hk => ?_⟩
    cases d with
    | ref n =>
      obtain ⟨cs, hc⟩ := Option.isSome_iff_exists.mp (show (cellL W.S n).isSome = true from hk)
      obtain ⟨_, a, vs, rfl, _, ha, _⟩ := cellL_at sm hc rd
      exact .inl ⟨rfl, vs, SqL.of ha⟩
    | _ => cases (show false = true from hk)
  · rename_i e; cases h; subst e
    refine ⟨"str", "str.split", PySem.F.plainAttrs_str, PySem.F.slot_str_split, PySem.F.type_str_split, ok_split, fun W d x sm rd hk => ?_⟩
    cases d with
    | str z => cases (show x = _ from rd); rfl
    | _ => cases (show false = true from hk)
  · rename_i e; cases h; subst e
    refine ⟨"str", "str.join", PySem.F.plainAttrs_str, PySem.F.slot_str_join, PySem.F.type_str_join, ok_join hK, fun W d x sm rd hk => ?_⟩
    cases d with
    | str z => cases (show x = _ from rd); rfl
    | _ => cases (show false = true from hk)
  · cases h
theorem d_meth (G : Good Γ J X lv) (hh : Γ.hot = false) (ih : ∀ e, PE X e (Den J (r e))) {o : Expr} {m : Str} {es : List Expr} {apos pos : Pos} : PE X (.Call (.Attribute o m apos) es [] pos) (Den J (methE Γ r o m (apos.endLine == pos.line) es)) := by
  refine pe_by fun W ρ σ Q sm er q => ?_
  unfold methE at q
  split at q
  · rename_i hgd
    obtain ⟨h1, h2, h3, h4⟩ := methG_at hgd
    have he := meth_eval (m := m) (env := X.env) h1 h2 h3 h4
    cases hr : r o ρ W.S with
    | fail => rw [hr] at q; exact q.elim
    | exc c fs S1 =>
      rw [hr] at q
      -- the receiver raises: any class's reading serves
      have hq : Den J (r o) σ W.H fun _ _ => False := ⟨W, ρ, rfl, sm, er, by rw [hr]; exact q⟩
      refine ⟨fun σ H _ => Den J (r o) σ H fun _ _ => False, ⟨fun pins s σ H Q I h => ?_⟩, hq⟩
      exact PySem.W.methodCall_KW (pl := (do return (← importBound o X.env).getD true)) (thn ((ih o).run pins s σ H _ I h) fun u s1 ⟨x, H1, I1, rx, z⟩ => z.elim) he
    | ok d S1 =>
      rw [hr] at q
      have q : Post J W (methK Γ r m es ρ d S1) Q := q
      -- the receiver, then what follows
      have rec_ : ∀ {Q' : VK}, (∀ W1 v, W1.S = S1 → Ext W W1 → Sim J.K J.ca W1 → EnvR J.K W1 ρ σ → Rep J.K W1 d v → Q' v W1.H) → Den J (r o) σ W.H Q' := fun {Q'} k =>
        ⟨W, ρ, rfl, sm, er, by rw [hr]; exact fun W1 v e1 e2 e3 e4 => k W1 v e1 e2 e3 (er.ext sm e2) e4⟩
      unfold methK at q
      split at q
      · rename_i p hp
        obtain ⟨C, fs⟩ := p
        split at q
        · rename_i f hf hl
          obtain ⟨a, fd, ps, c, g1, g3, g4⟩ := G.tab.meth C m f hf
          cases es with
          | nil =>
            refine ⟨_, pe_meth0 (ih o) c g1 g4 (G.room hh) g3 .nil G.pass he, rec_ fun W1 v e1 e2 e3 e4 e5 => ?_⟩
            subst e1
            obtain ⟨a', dx, fv, rfl, k2, k3⟩ := insL_at e3 hp e5
            refine ⟨a', dx, fv, rfl, k2, k3.look0 hl, ?_⟩
            exact call_end G.K e3 (show Reps J.K W1 [d] [.ref a'] from ⟨_, [], rfl, e5, rfl⟩) (q.ext e2)
          | cons e es =>
            obtain ⟨m1, m2⟩ := noStar_cons h4
            refine ⟨_, pe_meth (ih o) c g1 g4 (G.room hh) g3 .nil G.pass (pa_evL ih h4) (not_star m1) (star_none m2) he, rec_ fun W1 v e1 e2 e3 e4 e5 => ?_⟩
            subst e1
            obtain ⟨a', dx, fv, rfl, k2, k3⟩ := insL_at e3 hp e5
            refine ⟨a', dx, fv, rfl, k2, k3.look0 hl, ?_⟩
            refine denL_bind e3 e4 (q.ext e2) fun W2 ds vs x1 x2 x3 x4 p2 => ?_
            rw [List.append_nil]
            exact call_end G.K x2 (show Reps J.K W2 (d :: ds) (.ref a' :: vs) from ⟨_, _, rfl, e5.mono e3 x1, x4⟩) p2
        · exact q.elim
      · rcases es with _ | ⟨e, _ | ⟨e', es⟩⟩
        · dsimp only at q
          split at q
          · rename_i b hb
            obtain ⟨T, id, k1, k2, k3, k4, k5⟩ := bm0F_at (J := J) (X := X) hb
            refine ⟨_, pe_bm0 k1 k2 k3 k4 (ih o) (abase h1) h2, rec_ fun W1 v e1 e2 e3 e4 e5 => ?_⟩
            subst e1
            have q1 := q.ext e2
            exact ⟨k5 W1 d v [] Q e3 e5 G.K q1, W1, d, [], rfl, e3, e5, rfl, q1⟩
          · exact q.elim
        · dsimp only at q
          split at q
          · rename_i b hb
            split at q
            · rename_i ty
              obtain ⟨T, id, k1, k2, k3, k4, k5⟩ := bm1F_at (J := J) (X := X) G.K hb
              obtain ⟨m1, m2⟩ := noStar_cons h4
              refine ⟨_, pe_bm k1 k2 k3 k4 (ih o) (pa_evL ih h4) (abase h1) (meth_form h3 h4) h2 (not_star m1) (star_none m2), rec_ fun W1 v e1 e2 e3 e4 e5 => ?_⟩
              subst e1
              refine ⟨k5 W1 d v e3 e5 ty, denL_bind e3 e4 (q.ext e2) fun W2 ds vs x1 x2 x3 x4 p2 => ⟨W2, d, ds, rfl, x2, e5.mono e3 x1, x4, p2⟩⟩
            · exact q.elim
          · exact q.elim
        · exact q.elim
  · exact q.elim
end
end E

set_option linter.all false
set_option maxRecDepth 100000
set_option maxHeartbeats 4000000
/- Evaluator E, part I: what is walked, targets, comprehensions; all expressions. -/
namespace E
open PySem PySem.Spec PyProof.Rows L2
/-- an iterator yields the items while the source stands -/
def RI (J : Jd) : Wd → (List D × Src) → It → Prop := fun W1 p T => ∀ W', Ext W1 W' → Sim J.K J.ca W' → chk p.2 p.1 W'.S → ∀ i,
  (∀ d, p.1[i]? = some d → T.go i W'.H ∧ ∀ x H', T.yld i W'.H x H' → H' = W'.H ∧ Rep J.K W' d x) ∧ (p.1.length ≤ i → T.stop i W'.H)
def DenI (J : Jd) (f : EnvD → Store → Res (List D × Src)) : TI := fun σ H R => ∃ W ρ, W.H = H ∧ Sim J.K J.ca W ∧ EnvR J.K W ρ σ ∧ PostR J W (RI J) (f ρ W.S) R
def DenG (J : Jd) (g : D → EnvD → Option EnvD) (L : List Nat) : TG := fun v σ H Q => ∃ W d ρ ρ1, W.H = H ∧ Sim J.K J.ca W ∧ Rep J.K W d v ∧ EnvR J.K W ρ σ ∧ g d ρ = some ρ1 ∧
  ∀ σ1, EnvR J.K W ρ1 σ1 → σ1.length = σ.length → (∀ j, j ∉ L → σ1[j]? = σ[j]?) → Q σ1 H
section
variable {X : Cx} {J : Jd} {Γ : Gm} {lv : Nat} {r : Expr → Ev} {t : Expr → EvB}
theorem ri_seq {W1 : Wd} {d : D} {a : Addr} {items : List D} {src : Src} (rd : Rep J.K W1 d (.ref a)) (s1 : Sim J.K J.ca W1) (hs : ∀ W' : Wd, chk src items W'.S → seqL W'.S d = some items) : RI J W1 (items, src) (Itl J.K a) := fun W' e sm hc i => by
  obtain ⟨a', vs, h1, h2, h3⟩ := seqL_at sm (hs W' hc) (rd.mono s1 e)
  cases h1
  refine ⟨fun d hd => ?_, fun hl => ⟨vs, h2, by rw [h3.length]; exact hl⟩⟩
  obtain ⟨v, q1, q2⟩ := h3.get hd
  refine ⟨⟨vs, v, h2, q1⟩, fun x H' ⟨z1, z2⟩ => ⟨z1, ?_⟩⟩
  have := z2 vs h2
  rw [q1] at this
  cases this
  exact q2
theorem ri_tup {W1 : Wd} {items : List D} {a : Addr} {vs : List V} (s1 : Sim J.K J.ca W1) (rd : Rep J.K W1 (.tup items) (.ref a)) : RI J W1 (items, .still) (Itt J.K a) := fun W' e sm hc i => by
  obtain ⟨a', vs, h1, h2, h3⟩ := tup_at (rd.mono s1 e)
  cases h1
  refine ⟨fun d hd => ?_, fun hl => ⟨vs, h2, by rw [h3.length]; exact hl⟩⟩
  obtain ⟨v, q1, q2⟩ := h3.get hd
  refine ⟨⟨vs, v, h2, q1⟩, fun x H' ⟨z1, z2⟩ => ⟨z1, ?_⟩⟩
  have := z2 vs h2
  rw [q1] at this
  cases this
  exact q2
theorem ri_str {W1 : Wd} {z : Str} : RI J W1 (z.cps.toList.map fun c => D.str ⟨#[c]⟩, .still) (Its z) := fun W' e sm hc i => by
  refine ⟨fun d hd => ?_, fun hl => ?_⟩
  · rw [List.getElem?_map] at hd
    obtain ⟨c, h1, h2⟩ := Option.map_eq_some_iff.mp hd
    rw [Array.getElem?_toList] at h1
    refine ⟨(Array.getElem?_eq_some_iff.mp h1).1, fun x H' ⟨z1, c', z2, z3⟩ => ⟨z1, ?_⟩⟩
    rw [h1] at z2
    cases z2
    subst h2
    exact z3
  · rw [List.length_map, Array.length_toList] at hl
    exact hl
theorem ri_rng {W1 : Wd} {lo : Int} {n : Nat} : RI J W1 (rngD lo n, .still) (Itr lo n) := fun W' e sm hc i => by
  have hlen : (rngD lo n).length = n := by unfold rngD; rw [List.length_map, List.length_range]
  refine ⟨fun d hd => ?_, fun hl => by rw [hlen] at hl; exact hl⟩
  have hi : i < n := by
    have := (List.getElem?_eq_some_iff.mp hd).1
    rwa [hlen] at this
  unfold rngD at hd
  rw [List.getElem?_map, List.getElem?_range hi] at hd
  cases hd
  exact ⟨hi, fun x H' ⟨z1, z2⟩ => ⟨z1, z2⟩⟩
theorem pi_by {tg e : Expr} {f : EnvD → Store → Res (List D × Src)} (h : ∀ W ρ σ R, Sim J.K J.ca W → EnvR J.K W ρ σ → PostR J W (RI J) (f ρ W.S) R → ∃ wi, PI X tg e wi ∧ wi σ W.H R) : PI X tg e (DenI J f) :=
  ⟨fun pins s σ H R I ⟨W, ρ, hH, sm, er, p⟩ => by subst hH; obtain ⟨t, ht, q⟩ := h W ρ σ R sm er p; exact ht.run pins s σ _ R I q⟩
theorem d_iter (hK : J.K = X.K) (ih : ∀ e, PE X e (Den J (r e))) {tg e : Expr} : PI X tg e (DenI J fun ρ S => (r e ρ S).bind iterD) := by
  refine pi_by fun W ρ σ R sm er p => ?_
  cases hr : r e ρ W.S with
  | fail => rw [hr] at p; exact p.elim
  | exc c fs S1 => exact ⟨_, pi_list (ih e), W, ρ, rfl, sm, er, by rw [hr] at p ⊢; exact p⟩
  | ok d S1 =>
    rw [hr] at p
    replace p : PostR J W (RI J) (iterD d S1) R := p
    have rec_ : ∀ {Q' : VK}, (∀ W1 v, W1.S = S1 → Ext W W1 → Sim J.K J.ca W1 → Rep J.K W1 d v → Q' v W1.H) → Den J (r e) σ W.H Q' := fun {Q'} k =>
      ⟨W, ρ, rfl, sm, er, by rw [hr]; exact fun W1 v e1 e2 e3 e4 => k W1 v e1 e2 e3 e4⟩
    unfold iterD at p
    split at p
    · refine ⟨_, pi_tup (ih e), rec_ fun W1 v e1 e2 e3 e4 => ?_⟩
      subst e1
      obtain ⟨a, vs, rfl, h2, h3⟩ := tup_at e4
      refine ⟨a, rfl, ⟨vs, by rw [← hK]; exact h2⟩, ?_⟩
      rw [← hK]
      exact (p.ext e2).val e3 (ri_tup (vs := vs) e3 e4)
    · rename_i z
      refine ⟨_, pi_str (ih e), rec_ fun W1 v e1 e2 e3 e4 => ?_⟩
      subst e1
      cases (show v = _ from e4)
      exact ⟨z, rfl, (p.ext e2).val e3 ri_str⟩
    · rename_i ds
      refine ⟨_, pi_list (ih e), rec_ fun W1 v e1 e2 e3 e4 => ?_⟩
      subst e1
      obtain ⟨a, vs, rfl, h2, h3⟩ := seqL_at (d := .lst ds) e3 rfl e4
      refine ⟨a, rfl, ⟨vs, by rw [← hK]; exact h2⟩, ?_⟩
      rw [← hK]
      exact (p.ext e2).val e3 (ri_seq (d := .lst ds) e4 e3 fun _ _ => rfl)
    · rename_i ns
      refine ⟨_, pi_list (ih e), rec_ fun W1 v e1 e2 e3 e4 => ?_⟩
      subst e1
      obtain ⟨a, vs, rfl, h2, h3⟩ := seqL_at (d := .scr ns) e3 rfl e4
      refine ⟨a, rfl, ⟨vs, by rw [← hK]; exact h2⟩, ?_⟩
      rw [← hK]
      exact (p.ext e2).val e3 (ri_seq (d := .scr ns) e4 e3 fun _ _ => rfl)
    · rename_i n
      split at p
      · rename_i ds hd
        refine ⟨_, pi_list (ih e), rec_ fun W1 v e1 e2 e3 e4 => ?_⟩
        subst e1
        obtain ⟨a, vs, rfl, h2, h3⟩ := seqL_at (d := .ref n) e3 hd e4
        refine ⟨a, rfl, ⟨vs, by rw [← hK]; exact h2⟩, ?_⟩
        rw [← hK]
        exact (p.ext e2).val e3 (ri_seq (src := .cell n) (items := ds) (d := .ref n) e4 e3 fun _ q => q)
      · exact p.elim
    · exact p.elim
theorem d_rng (G : Good Γ J X lv) (ih : ∀ e, PE X e (Den J (r e))) {tg : Expr} {es : List Expr} {p pos : Pos} (hg : Gl X "range") (hm : X.mg "range" = none) : PI X tg (.Call (.Name "range" p) es [] pos) (DenI J (rngE r es)) := by
  refine pi_by fun W ρ σ R sm er q => ?_
  unfold rngE at q
  split at q
  · rename_i a
    split at q
    · exact q.elim
    · rename_i hs
      have hs : isStar a = false := by simpa using hs
      refine ⟨_, pi_range1 hg hm (pa_cons (ih a) pa_nil (not_star hs)) (by rw [not_star hs]; rfl), ?_⟩
      refine den_bind sm er q fun W1 d v e1 s1 r1 v1 p1 => ?_
      split at p1
      · split at p1
        · rename_i n hn
          cases (show v = _ from v1)
          exact ⟨n, rfl, hn.1, hn.2, p1.val s1 ri_rng⟩
        · exact p1.elim
      · exact p1.elim
  · rename_i a b
    split at q
    · exact q.elim
    · rename_i hs
      have hs : isStar a = false ∧ isStar b = false := by simpa using hs
      refine ⟨_, pi_range2 hg hm (pa_cons (ih a) (pa_cons (ih b) pa_nil (not_star hs.2)) (not_star hs.1)) (by rw [not_star hs.1, not_star hs.2]; rfl) (by rw [not_star hs.2]; rfl), ?_⟩
      refine den_bind sm er q fun W1 d v e1 s1 r1 v1 p1 => ?_
      refine den_bind s1 r1 p1 fun W2 e u e2 s2 r2 v2 p2 => ?_
      split at p2
      · split at p2
        · rename_i m n hn
          cases (show v = _ from v1)
          cases (show u = _ from v2)
          exact ⟨m, n, rfl, ⟨hn.1.1, hn.1.2, hn.2.1, hn.2.2⟩, p2.val s2 ri_rng⟩
        · exact p2.elim
      · exact p2.elim
  · exact q.elim
theorem d_iterE (G : Good Γ J X lv) (ih : ∀ e, PE X e (Den J (r e))) {tg e : Expr} : PI X tg e (DenI J (iterE Γ r e)) := by
  refine pi_by fun W ρ σ R sm er q => ?_
  unfold iterE at q
  split at q
  · split at q
    · rename_i h
      simp only [Bool.and_eq_true, decide_eq_true_eq] at h
      obtain ⟨⟨h1, h2⟩, h3⟩ := h
      subst h3
      obtain ⟨g1, _⟩ := isGl_at G h1
      exact ⟨_, d_rng G ih g1 (G.tab.bis _ h2), W, ρ, rfl, sm, er, q⟩
    · exact ⟨_, d_iter G.K ih, W, ρ, rfl, sm, er, q⟩
  · split at q
    · exact q.elim
    · exact ⟨_, d_iter G.K ih, W, ρ, rfl, sm, er, q⟩
theorem folded {e : Expr} (h : isSet e = false) (env : Env) (x : Value) : foldedSetIterable e env x = pure x := by
  cases e <;> first | rfl | cases h
theorem iter_set {e : Expr} {ρ : EnvD} {W : Wd} {γ δ : Type} {R' : Wd → γ → δ → Prop} {k : (List D × Src) → Store → Res γ} {Q : δ → Hp → Prop} (p : PostR J W R' ((iterE Γ r e ρ W.S).bind k) Q) : isSet e = false := by
  cases h : isSet e with
  | false => rfl
  | true =>
    unfold iterE at p
    split at p
    · cases h
    · rw [h] at p; exact p.elim
/-! ### targets -/
theorem setI_at (G : Good Γ J X lv) {x : Str} {i : Nat} (h : Γ.setI x = some i) : Γ.slot x = some i ∧ X.N[i]? = some x ∧ L2.Loc X.env.scope x ∧ (X.fn x = true ∨ X.env.scope.names.lookup x = some .local) := by
  unfold Gm.setI at h
  split at h
  · rename_i hs
    have e : X.env.scope.names.lookup x = Γ.sc.names.lookup x := by rw [G.sc]
    refine ⟨h, (slot_at G h).1, ?_⟩
    unfold L2.Loc
    rw [e, G.fn]
    unfold Gm.stOk at hs
    split at hs
    · exact ⟨.inl (by assumption), .inr (by assumption)⟩
    · exact ⟨.inr (by assumption), .inl hs⟩
    · cases hs
  · cases h
theorem st_at (G : Good Γ J X lv) {x : Str} {d : D} {ρ ρ1 : EnvD} (h : setE Γ x d ρ = some ρ1) : ∃ i, Γ.slot x = some i ∧ ρ1 = ρ.set i (some d) ∧ X.N[i]? = some x ∧ L2.Loc X.env.scope x ∧ (X.fn x = true ∨ X.env.scope.names.lookup x = some .local) := by
  obtain ⟨i, h1, h2⟩ := Option.map_eq_some_iff.mp h
  obtain ⟨g1, g2, g3, g4⟩ := setI_at G h1
  exact ⟨i, g1, h2.symm, g2, g3, g4⟩
theorem d_tgN (G : Good Γ J X lv) {x : Str} {pos : Pos} : PG X (.Name x pos) (DenG J (setE Γ x) (Γ.slot x).toList) := by
  refine ⟨fun pins s σ H v u Q I ru ⟨W, d, ρ, ρ1, hH, sm, rd, er, hg, k⟩ => ?_⟩
  subst hH
  obtain ⟨i, h1, h2, h3, h4, h5⟩ := st_at G hg
  refine (pg_name G.nd h3 h4 h5).run pins s σ _ v u Q I ru ?_
  subst h2
  refine k _ (er.set rd) (by rw [List.length_set]) fun j hj => ?_
  rw [h1] at hj
  exact List.getElem?_set_ne fun e => hj (by rw [e]; exact List.mem_singleton.mpr rfl)
def tgLs (Γ : Gm) (es : List Expr) : List Nat := es.flatMap fun e => match e with
  | .Name x _ => (Γ.slot x).toList
  | _ => []
theorem d_tgs (G : Good Γ J X lv) : ∀ {es : List Expr} {W : Wd} {ds : List D} {vs : List V} {ρ ρ1 : EnvD} {σ : L2.St} {Q : L2.St → Hp → Prop}, Sim J.K J.ca W → Reps J.K W ds vs → EnvR J.K W ρ σ → setsE Γ es ds ρ = some ρ1 →
    (∀ σ1, EnvR J.K W ρ1 σ1 → σ1.length = σ.length → (∀ j, j ∉ tgLs Γ es → σ1[j]? = σ[j]?) → Q σ1 W.H) → ∃ t, PGs X es t ∧ t vs σ W.H Q ∧ (∀ env, (assignEach es env).length = es.length) ∧ (∀ env, (assignEach es env).findIdx? (·.1) = none) ∧ ds.length = es.length
  | [], W, ds, vs, ρ, ρ1, σ, Q, sm, rs, er, h, k => by
    cases ds with
    | nil =>
      cases (show some ρ = some ρ1 from h)
      cases (show vs = [] from rs)
      exact ⟨_, pgs_nil, ⟨rfl, k σ er rfl fun _ _ => rfl⟩, fun _ => rfl, fun _ => rfl, rfl⟩
    | cons d ds => cases h
  | e :: es, W, ds, vs, ρ, ρ1, σ, Q, sm, rs, er, h, k => by
    cases e with
    | Name x pos =>
      cases ds with
      | nil => cases h
      | cons d ds =>
        obtain ⟨v, vr, rfl, h2, h3⟩ := rs
        obtain ⟨ρ2, g1, g2⟩ := Option.bind_eq_some_iff.mp (show (setE Γ x d ρ).bind (fun ρ1 => setsE Γ es ds ρ1) = some ρ1 from h)
        obtain ⟨i, q1, q2, q3, q4, q5⟩ := st_at G g1
        subst q2
        obtain ⟨t, t1, t2, t3, t4, t5⟩ := d_tgs G (es := es) (Q := Q) sm h3 (er.set (i := i) h2) g2 fun σ1 z1 z2 z3 => k σ1 z1 (by rw [z2, List.length_set]) fun j hj => by
          have hj1 : j ∉ (Γ.slot x).toList ∧ j ∉ tgLs Γ es := by
            unfold tgLs at hj ⊢
            rw [List.flatMap_cons, List.mem_append, not_or] at hj
            exact hj
          rw [z3 j hj1.2]
          rw [q1] at hj1
          exact List.getElem?_set_ne fun e => hj1.1 (by rw [e]; exact List.mem_singleton.mpr rfl)
        refine ⟨_, pgs_cons (pg_name G.nd q3 q4 q5) t1, ⟨v, vr, rfl, t2⟩, fun env => ?_, fun env => ?_, ?_⟩
        · show (assignEach es env).length + 1 = es.length + 1
          rw [t3]
        · show ((false, assign (.Name x pos) env) :: assignEach es env).findIdx? (·.1) = none
          rw [List.findIdx?_cons, t4 env]
          rfl
        · show ds.length + 1 = es.length + 1
          rw [t5]
    | _ => cases ds <;> cases h
theorem hot_none {α : Type} {b : Bool} {x : Option α} {y : α} (h : (if b = true then none else x) = some y) : b = false ∧ x = some y := by
  cases b with
  | true => cases h
  | false => exact ⟨rfl, h⟩
theorem d_tg (G : Good Γ J X lv) {t : Expr} : PG X t (DenG J (tgE Γ t) (tgL Γ t)) := by
  cases t with
  | Name x pos => exact d_tgN G
  | Tuple es k pos =>
    refine ⟨fun pins s σ H v u Q I ru ⟨W, d, ρ, ρ1, hH, sm, rd, er, hg, kk⟩ => ?_⟩
    subst hH
    cases d with
    | tup ds =>
      have hg0 : (if Γ.hot = true then none else setsE Γ es ds ρ) = some ρ1 := hg
      obtain ⟨hh, hg⟩ := hot_none hg0
      obtain ⟨a, vs, rfl, h2, h3⟩ := tup_at rd
      obtain ⟨t, t1, t2, t3, t4, t5⟩ := d_tgs G (Q := Q) sm h3 er hg kk
      exact (pg_tup (n := es.length) (G.calm hh) t1 (t3 _) (t4 _)).run pins s σ _ _ u Q I ru ⟨a, vs, rfl, by rw [← G.K]; exact h2, by rw [h3.length]; exact t5, t2⟩
    | _ => cases hb : Γ.hot <;> (simp only [tgE, hb] at hg) <;> cases hg
  | _ => exact ⟨fun pins s σ H v u Q I ru ⟨W, d, ρ, ρ1, hH, sm, rd, er, hg, kk⟩ => by cases hg⟩
/-! ### comprehensions -/
theorem wipe_get {σ : L2.St} : ∀ {vs : List Nat} {j : Nat}, (wipe σ vs)[j]? = if j ∈ vs then (σ[j]?).map (fun _ => none) else σ[j]?
  | [], j => by simp [wipe]
  | v :: vs, j => by
    unfold wipe
    by_cases h : j = v
    · subst h
      rw [if_pos List.mem_cons_self, List.getElem?_set]
      rw [if_pos rfl, wipe_length]
      by_cases hl : j < σ.length
      · rw [if_pos hl, List.getElem?_eq_getElem hl]; rfl
      · rw [if_neg hl, List.getElem?_eq_none (by omega)]; rfl
    · rw [List.getElem?_set_ne (Ne.symm h), wipe_get]
      by_cases h2 : j ∈ vs
      · rw [if_pos h2, if_pos (List.mem_cons_of_mem _ h2)]
      · rw [if_neg h2, if_neg (by simp [h, h2])]
theorem wipeD_get {σ : EnvD} : ∀ {vs : List Nat} {j : Nat}, (wipeD σ vs)[j]? = if j ∈ vs then (σ[j]?).map (fun _ => none) else σ[j]?
  | [], j => by simp [wipeD]
  | v :: vs, j => by
    have hl0 : ∀ l : List Nat, (wipeD σ l).length = σ.length := fun l => by
      induction l with
      | nil => rfl
      | cons a l ih => unfold wipeD; rw [List.length_set, ih]
    unfold wipeD
    by_cases h : j = v
    · subst h
      rw [if_pos List.mem_cons_self, List.getElem?_set]
      rw [if_pos rfl, hl0]
      by_cases hl : j < σ.length
      · rw [if_pos hl, List.getElem?_eq_getElem hl]; rfl
      · rw [if_neg hl, List.getElem?_eq_none (by omega)]; rfl
    · rw [List.getElem?_set_ne (Ne.symm h), wipeD_get]
      by_cases h2 : j ∈ vs
      · rw [if_pos h2, if_pos (List.mem_cons_of_mem _ h2)]
      · rw [if_neg h2, if_neg (by simp [h, h2])]
theorem wipeD_length {σ : EnvD} (l : List Nat) : (wipeD σ l).length = σ.length := by
  induction l with
  | nil => rfl
  | cons a l ih => unfold wipeD; rw [List.length_set, ih]
theorem EnvR.wipe {K : PySem.W.Frag} {W : Wd} {ρ : EnvD} {σ : L2.St} (h : EnvR K W ρ σ) (vs : List Nat) : EnvR K W (wipeD ρ vs) (L2.wipe σ vs) := by
  refine ⟨by rw [wipeD_length, wipe_length]; exact h.1, fun j d q => ?_⟩
  rw [wipeD_get] at q
  rw [wipe_get]
  by_cases c : j ∈ vs
  · rw [if_pos c] at q
    obtain ⟨x, _, h2⟩ := Option.map_eq_some_iff.mp q
    cases h2
  · rw [if_neg c] at q ⊢
    exact h.2 j d q
/-- the wiped slots do not matter -/
theorem wipe_same {σ1 σ : L2.St} {L vs : List Nat} (hL : ∀ j ∈ L, j ∈ vs) (hl : σ1.length = (L2.wipe σ vs).length) (h : ∀ j, j ∉ L → σ1[j]? = (L2.wipe σ vs)[j]?) : L2.wipe σ1 vs = L2.wipe σ vs := by
  apply List.ext_getElem?
  intro j
  rw [wipe_get, wipe_get]
  by_cases c : j ∈ vs
  · rw [if_pos c, if_pos c]
    rw [wipe_length] at hl
    by_cases hj : j < σ.length
    · rw [List.getElem?_eq_getElem hj, List.getElem?_eq_getElem (by omega)]; rfl
    · rw [List.getElem?_eq_none (by omega), List.getElem?_eq_none (by omega)]
  · rw [if_neg c, if_neg c, h j fun q => c (hL j q), wipe_get, if_neg c]
theorem pts_tests (iht : ∀ e, PT X e (DenT J (t e))) : ∀ {ifs : List Expr}, PTs X ifs (DenT J (testsE t ifs))
  | [] => ⟨fun pins s σ H Q I ⟨W, ρ, hH, sm, er, p⟩ => pts_nil.run pins s σ H Q I (by subst hH; exact p.val sm rfl)⟩
  | [c] => pts_one (iht c)
  | _ :: _ :: _ => ⟨fun pins s σ H Q I ⟨W, ρ, hH, sm, er, p⟩ => p.elim⟩
/-- nothing is let out of a block -/
abbrev Jd.quiet (J : Jd) : Jd := ⟨J.K, J.ca, fun _ _ _ => False⟩
theorem passN {X : Cx} : Passes (L2N.CX X.prog X.w) X fun _ _ _ => False := fun _ _ _ _ _ _ _ h => by
  obtain ⟨_, _, _, _, _, _, _, _, _, _, _, _, z⟩ := h
  exact z.elim
theorem takesN {X : Cx} : L2N.Takes X (fun _ _ _ _ => False) := fun _ _ x => by
  obtain ⟨_, _, _, _, _, _, _, _, _, _, _, _, _, _, _, _, z⟩ := x
  exact z.elim
theorem Good.blk (G : Good Γ J X lv) (hh : Γ.hot = false) {scope : Scope} (hs : scope.kind = .function) (s : Shared) (H : Hp) (C : Addr) (cl : List (Str × Addr)) (fp : List Addr) : Good (blkG Γ scope) J.quiet (X.blk s H scope (compEnvC scope cl C X.env) fp) lv where
  K := G.K
  N := G.N
  nd := G.nd
  sc := by
    show relS scope X.env.scope = relS scope Γ.sc
    rw [G.sc]
  kind := hs
  fn := rfl
  calm := G.calm
  tab := G.tab
  room := G.room
  hotc := fun h => absurd (show Γ.hot = true from h) (by rw [hh]; decide)
  pass := passN
  own := PassesOwn.never
  takes := takesN
/-- the reading of a comprehension -/
theorem lc_parts (G : Good Γ J X lv) {rg : Gm → Expr → Ev} {tg' : Gm → Expr → EvB}
    {elt tg iter : Expr} {ifs : List Expr} {scope : Scope} {W : Wd} {ρ : EnvD} {σ : L2.St} {Q : VK} (sm : Sim J.K J.ca W) (er : EnvR J.K W ρ σ)
    (hL : ∀ j ∈ tgL (blkG Γ scope) tg, j ∈ (ownE Γ.N scope).map (·.2))
    (p : Post J W ((iterE Γ (rg Γ) iter ρ W.S).bind fun p S1 => (compL (fun x => tgE (blkG Γ scope) tg x (wipeD ρ ((ownE Γ.N scope).map (·.2)))) (testsE (tg' (blkG Γ scope)) ifs) (rg (blkG Γ scope) elt) p.2 p.1 S1.length p.1 (S1 ++ [some (.lst [])])).bind fun _ S2 => .ok (.ref S1.length) S2) Q) :
    tLc (DenI J (iterE Γ (rg Γ) iter)) (DenG J.quiet (tgE (blkG Γ scope) tg) (tgL (blkG Γ scope) tg)) (DenT J.quiet (testsE (tg' (blkG Γ scope)) ifs)) (Den J.quiet (rg (blkG Γ scope) elt)) ((ownE Γ.N scope).map (·.2)) σ W.H Q := by
  refine ⟨W, ρ, rfl, sm, er, p.bind.imp fun T H1 ⟨W1, pr, h1, h2, h3, h4, h5⟩ => ?_⟩
  subst h1
  obtain ⟨items, src⟩ := pr
  intro D hD
  have er1 := (er.ext sm h2).wipe ((ownE Γ.N scope).map (·.2))
  obtain ⟨x1, x2⟩ := new_list (ds := []) (vs := []) h3 hD rfl
  generalize hn : W1.S.length = n at h5
  generalize hρ : wipeD ρ ((ownE Γ.N scope).map (·.2)) = ρ0 at h5 er1
  have hphi : ∀ {W' : Wd}, Ext (W1.laid D (.lst []) (upd W1.H D (.lst []))) W' → n < W'.S.length ∧ W'.φ n = some D := fun {W'} e => by
    have hl : n < (W1.S ++ [some (Cell.lst [])]).length := by rw [List.length_append, List.length_singleton]; omega
    refine ⟨Nat.lt_of_lt_of_le hl e.len, (e.phi n hl).trans ?_⟩
    show (if n = W1.S.length then some D else W1.φ n) = some D
    rw [if_pos hn.symm]
  have p5 : Post J (W1.laid D (.lst []) (upd W1.H D (.lst []))) ((compL (fun x => tgE (blkG Γ scope) tg x ρ0) (testsE (tg' (blkG Γ scope)) ifs) (rg (blkG Γ scope) elt) src items n items (W1.laid D (.lst []) (upd W1.H D (.lst []))).S).bind fun _ S2 => .ok (.ref n) S2) Q := h5.ext x1
  refine ⟨fun i m H => m = items.length - i ∧ i ≤ items.length ∧ ∃ W', W'.H = H ∧ Ext (W1.laid D (.lst []) (upd W1.H D (.lst []))) W' ∧ Sim J.K J.ca W' ∧
    Post J W' ((compL (fun x => tgE (blkG Γ scope) tg x ρ0) (testsE (tg' (blkG Γ scope)) ifs) (rg (blkG Γ scope) elt) src items n (items.drop i) W'.S).bind fun _ S2 => .ok (.ref n) S2) Q,
    ⟨_, rfl, Nat.zero_le _, _, rfl, Ext.refl _, x2, p5⟩, ?_⟩
  rintro i m H ⟨hm, hi, W', hH, e', s', q⟩
  subst hH
  have eT : Ext W1 W' := x1.trans e'
  rcases Nat.lt_or_ge i items.length with hlt | hge
  · -- a turn
    rw [List.drop_eq_getElem_cons hlt] at q
    unfold compL at q
    by_cases hc : chk src items W'.S
    · rw [ifc_pos hc] at q
      obtain ⟨g1, g2⟩ := (h4 W' eT s' hc i).1 _ (List.getElem?_eq_getElem hlt)
      refine .inr ⟨g1, fun H2 => ∃ W2, W2.H = H2 ∧ Ext (W1.laid D (.lst []) (upd W1.H D (.lst []))) W2 ∧ Sim J.K J.ca W2 ∧
        Post J W2 ((compL (fun x => tgE (blkG Γ scope) tg x ρ0) (testsE (tg' (blkG Γ scope)) ifs) (rg (blkG Γ scope) elt) src items n (items.drop (i + 1)) W2.S).bind fun _ S2 => .ok (.ref n) S2) Q,
        fun H2 ⟨W2, z1, z2, z3, z4⟩ => ⟨_, by omega, rfl, hlt, W2, z1, z2, z3, z4⟩, fun x H' hy => ?_⟩
      obtain ⟨y1, y2⟩ := g2 x H' hy
      subst y1
      split at q
      · rename_i ρ1 hρ1
        refine ⟨W', _, ρ0, ρ1, rfl, s', y2, er1.ext h3 eT, hρ1, fun σ1 r1 l1 k1 => ⟨wipe_same hL l1 k1, ?_⟩⟩
        split at q
        · rename_i S1 ht
          refine ⟨W', ρ1, rfl, s', r1, ?_⟩
          rw [ht]
          intro W3 b z1 z2 z3 z4
          cases (show true = b from z4)
          rw [if_pos rfl]
          subst z1
          split at q
          · rename_i d S2 hel
            refine ⟨W3, ρ1, rfl, z3, r1.ext s' z2, ?_⟩
            rw [hel]
            intro W4 v w1 w2 w3 w4
            subst w1
            split at q
            · rename_i acc hacc
              split at q
              · rename_i hz
                have eD : Ext (W1.laid D (.lst []) (upd W1.H D (.lst []))) W4 := (e'.trans z2).trans w2
                obtain ⟨f1, f2⟩ := hphi eD
                obtain ⟨c0, a, accV, ca1, ca2, ca3, ca4⟩ := cellL_at w3 hacc (x := .ref D) ⟨D, rfl, f1, f2⟩
                cases ca1
                obtain ⟨u1, u2⟩ := put_list w3 c0 f2 (ca4.append (.cons w4 .nil))
                refine ⟨accV, ca3, by rw [ca4.length]; exact hz, _, rfl, eD.trans u1, u2, ?_⟩
                exact PostR.ext (((z2.trans w2)).trans u1) q
              · exact q.elim
            · exact q.elim
          · exact q.elim
        · rename_i S1 ht
          refine ⟨W', ρ1, rfl, s', r1, ?_⟩
          rw [ht]
          intro W3 b z1 z2 z3 z4
          cases (show false = b from z4)
          rw [if_neg Bool.false_ne_true]
          subst z1
          exact ⟨W3, rfl, e'.trans z2, z3, PostR.ext z2 q⟩
        · exact q.elim
      · exact q.elim
    · rw [ifc_neg hc] at q
      exact q.elim
  · have hie : items.drop i = [] := List.drop_eq_nil_of_le hge
    rw [hie] at q
    unfold compL at q
    by_cases hc : chk src items W'.S
    · rw [ifc_pos hc] at q
      obtain ⟨f1, f2⟩ := hphi e'
      exact .inl ⟨(h4 W' eT s' hc i).2 hge, PostR.val s' (show Rep J.K W' (.ref n) (.ref D) from ⟨D, rfl, f1, f2⟩) q⟩
    · rw [ifc_neg hc] at q
      exact q.elim
theorem comp_guard {p : Bool} {α : Type} {x : Res α} {W : Wd} {R' : Wd → α → V → Prop} {Q : VK} (q : PostR J W R' (if !p then .fail else x) Q) : p = true ∧ PostR J W R' x Q := by
  cases p with
  | true => exact ⟨rfl, q⟩
  | false => exact q.elim
theorem d_comp (G : Good Γ J X lv) (hh : Γ.hot = false) {rg : Gm → Expr → Ev} {tg' : Gm → Expr → EvB} (ih : ∀ Γ J X, Good Γ J X lv → (∀ e, PE X e (Den J (rg Γ e))) ∧ ∀ e, PT X e (DenT J (tg' Γ e)))
    {elt tg iter : Expr} {ifs : List Expr} {scope : Scope} {pos : Pos} : PE X (.ListComp elt [⟨tg, iter, ifs, 0⟩] scope pos) (Den J (compE Γ rg tg' elt tg iter ifs scope)) := by
  refine pe_by fun W ρ σ Q sm er p => ?_
  unfold compE at p
  obtain ⟨hg, p⟩ := comp_guard p
  simp only [Bool.and_eq_true, List.all_eq_true, decide_eq_true_eq] at hg
  obtain ⟨hb, hL⟩ := hg
  have hsk : scope.kind = .function := (blkOk_by hb).kind
  have ok : BlkOk X.N X.env.scope scope (ownE Γ.N scope) := by rw [G.N, G.sc]; exact blkOk_by hb
  exact ⟨_, pe_lc (own := ownE Γ.N scope) (G.calm hh) G.nd (d_iterE G (ih Γ J X G).1) ok (fun s H C cl fp => d_tg (G.blk hh hsk s H C cl fp)) (fun s H C cl fp => pts_tests (ih _ _ _ (G.blk hh hsk s H C cl fp)).2) (fun s H C cl fp => (ih _ _ _ (G.blk hh hsk s H C cl fp)).1 elt) (folded (iter_set p) _), lc_parts G sm er hL p⟩
/-- name = [..] -/
theorem d_setLc (G : Good Γ J X lv) (hh : Γ.hot = false) {rg : Gm → Expr → Ev} {tg' : Gm → Expr → EvB} (ih : ∀ Γ J X, Good Γ J X lv → (∀ e, PE X e (Den J (rg Γ e))) ∧ ∀ e, PT X e (DenT J (tg' Γ e)))
    {elt tg iter : Expr} {ifs : List Expr} {scope : Scope} {pos py spos : Pos} {i : Nat} {y : Str} (hy : X.N[i]? = some y) (hyl : X.env.scope.names.lookup y = some .local) (hsw : swapsWith (.ListComp elt [⟨tg, iter, ifs, 0⟩] scope pos) (some (.Name y py)) spos.line X.env = pure true)
    {W : Wd} {ρ : EnvD} {σ : L2.St} {D : Ends} (sm : Sim J.K J.ca W) (er : EnvR J.K W ρ σ) (p : Post J W (compE Γ rg tg' elt tg iter ifs scope ρ W.S) fun x H1 => D.nx (σ.set i (some x)) H1) :
    ∃ t, PS X (.Assign [.Name y py] (.ListComp elt [⟨tg, iter, ifs, 0⟩] scope pos) spos) t ∧ t D σ W.H := by
  unfold compE at p
  obtain ⟨hg, p⟩ := comp_guard p
  simp only [Bool.and_eq_true, List.all_eq_true, decide_eq_true_eq] at hg
  obtain ⟨hb, hL⟩ := hg
  have hsk : scope.kind = .function := (blkOk_by hb).kind
  have ok : BlkOk X.N X.env.scope scope (ownE Γ.N scope) := by rw [G.N, G.sc]; exact blkOk_by hb
  exact ⟨_, ps_setLc (own := ownE Γ.N scope) (G.calm hh) G.nd hy hyl hsw (d_iterE G (ih Γ J X G).1) ok (fun s H C cl fp => d_tg (G.blk hh hsk s H C cl fp)) (fun s H C cl fp => pts_tests (ih _ _ _ (G.blk hh hsk s H C cl fp)).2) (fun s H C cl fp => (ih _ _ _ (G.blk hh hsk s H C cl fp)).1 elt) (folded (iter_set p) _), lc_parts G sm er hL p⟩
end
/-! ### all expressions -/
section
variable {lv : Nat}
theorem tru_plain {e : Expr} {X : Cx} (h : ∀ whole, isTrue e X.env whole = (do let v ← whole; standAt e.pos; holding [v] (truthy v))) {J : Jd} {Γ : Gm} (G : Good Γ J X lv) {f : Ev} (ih : PE X e (Den J f)) : PT X e (DenT J (truE f)) := by
  refine pt_by fun W ρ σ Q sm er p => ⟨_, pt_truth ih h, ?_⟩
  have p' : PostR J W RB ((truE f ρ W.S).bind fun b S1 => .ok b S1) Q := by
    cases hr : truE f ρ W.S <;> rw [hr] at p <;> exact p
  exact tru_bind G (Q' := Q) sm er p' fun W1 b e1 s1 r1 p1 => p1.val s1 rfl
theorem sound_step {rg : Gm → Expr → Ev} {tg : Gm → Expr → EvB} (ih : ∀ Γ J X, Good Γ J X lv → (∀ e, PE X e (Den J (rg Γ e))) ∧ ∀ e, PT X e (DenT J (tg Γ e))) (Γ : Gm) (J : Jd) (X : Cx) (G : Good Γ J X lv) :
    (∀ e, PE X e (Den J (stepE Γ rg tg e))) ∧ ∀ e, PT X e (DenT J (stepT Γ rg tg e)) := by
  obtain ⟨h1, h2⟩ := ih Γ J X G
  have hE : ∀ e, PE X e (Den J (stepE Γ rg tg e)) := fun e => by
    unfold stepE
    split
    · exact d_const
    · exact d_name G
    · exact d_bin G h1
    · exact d_neg h1
    · exact d_not G h1
    · exact d_and G h1
    · exact d_or G h1
    · exact d_cmp G h1
    · exact d_ifexp h1 h2
    · exact d_tuple h1
    · exact d_list h1
    · exact d_slice G h1
    · exact d_ix G h1
    · exact d_attr G h1
    · split
      · rename_i hh
        exact d_hot G hh h1
      · rename_i hh
        exact d_calls G (by simpa using hh) h1
    · split
      · exact pe_fail
      · rename_i hh
        exact d_meth G (by simpa using hh) h1
    · split
      · exact pe_fail
      · rename_i hh
        exact d_comp G (by simpa using hh) ih
    · exact pe_fail
  refine ⟨hE, fun e => ?_⟩
  unfold stepT
  split
  · exact (d_andT h2).pt
  · exact (d_orT h2).pt
  · rename_i a pos
    refine pt_by fun W ρ σ Q sm er p => ⟨_, pt_not (h2 a), ?_⟩
    exact denT_bind sm er p fun W1 b e1 s1 r1 p1 => p1.val s1 rfl
  · exact pt_fail
  · exact d_cmpT G h1
  · exact pt_fail
  · rename_i q1 q2 q3 q4 q5 q6
    refine tru_plain (fun whole => ?_) G (hE e)
    cases e with
    | BoolOp op es pos =>
      cases op with
      | And => exact (q1 _ _ rfl).elim
      | Or => exact (q2 _ _ rfl).elim
    | UnaryOp op a pos => cases op <;> first | rfl | exact (q3 _ _ rfl).elim
    | IfExp a b c pos => exact (q4 _ _ _ _ rfl).elim
    | Compare a ops bs pos => exact (q6 _ _ _ _ rfl).elim
    | _ => rfl
theorem sound : ∀ (n : Nat) (Γ : Gm) (J : Jd) (X : Cx), Good Γ J X lv → (∀ e, PE X e (Den J (ev Γ n e))) ∧ ∀ e, PT X e (DenT J (evT Γ n e))
  | 0, _, _, _, _ => ⟨fun _ => pe_fail, fun _ => pt_fail⟩
  | n + 1, Γ, J, X, G => sound_step (rg := (evs n).1) (tg := (evs n).2) (fun Γ J X G => sound n Γ J X G) Γ J X G
end
end E

set_option linter.all false
set_option maxRecDepth 100000
set_option maxHeartbeats 4000000
/- Evaluator E, part X: within an except suite. -/
namespace E
open PySem PySem.Spec PyProof.Rows L2
/-- the exception's object stands in slot i, its attributes in the dict at dd -/
def XAt (K : PySem.W.Frag) (i : Nat) (a dd : Addr) (fs : List (Str × D)) (W : Wd) (σ : L2.St) : Prop := σ[i]? = some (some (.ref a)) ∧ ∃ fv, W.H dd = some (.xd fv) ∧ RepF K W fs fv
theorem Sim.live_xd {K : PySem.W.Frag} {ca : Str → Addr} {W : Wd} (s : Sim K ca W) {a : Addr} {fv : List (Str × V)} (h : W.H a = some (.xd fv)) : ¬ Live W a := fun ⟨n, c, h1, h2⟩ => by
  obtain ⟨a', e, q⟩ := s.at_ n c h1
  rw [h2] at e; cases e
  cases c with
  | lst ds => obtain ⟨_, q, _⟩ := q; rw [h] at q; cases q
  | ins C fs => obtain ⟨_, _, q, _⟩ := q; rw [h] at q; cases q
theorem XAt.ext {K : PySem.W.Frag} {ca : Str → Addr} {i : Nat} {a dd : Addr} {fs : List (Str × D)} {W W' : Wd} {σ : L2.St} (h : XAt K i a dd fs W σ) (s : Sim K ca W) (e : Ext W W') : XAt K i a dd fs W' σ := by
  obtain ⟨h1, fv, h2, h3⟩ := h
  exact ⟨h1, fv, (e.keep dd _ h2 (s.live_xd h2)).1, h3.mono s e⟩
section
variable {X : Cx} {J : Jd} {i : Nat} {a dd : Addr} {fs : List (Str × D)}
def DenP (J : Jd) (i : Nat) (a dd : Addr) (fs : List (Str × D)) (f : Ev) : TE := fun σ H Q => ∃ W ρ, W.H = H ∧ Sim J.K J.ca W ∧ EnvR J.K W ρ σ ∧ XAt J.K i a dd fs W σ ∧ Post J W (f ρ W.S) Q
def DenPT (J : Jd) (i : Nat) (a dd : Addr) (fs : List (Str × D)) (f : EvB) : TT := fun σ H Q => ∃ W ρ, W.H = H ∧ Sim J.K J.ca W ∧ EnvR J.K W ρ σ ∧ XAt J.K i a dd fs W σ ∧ PostR J W RB (f ρ W.S) Q
def DenPL (J : Jd) (i : Nat) (a dd : Addr) (fs : List (Str × D)) (f : EvL) : TA := fun σ H Q => ∃ W ρ, W.H = H ∧ Sim J.K J.ca W ∧ EnvR J.K W ρ σ ∧ XAt J.K i a dd fs W σ ∧ PostR J W (RL J) (f ρ W.S) Q
def DenPS (J : Jd) (i : Nat) (a dd : Addr) (fs : List (Str × D)) (f : Ev) : TS := fun D σ H => ∃ W ρ, W.H = H ∧ Sim J.K J.ca W ∧ EnvR J.K W ρ σ ∧ XAt J.K i a dd fs W σ ∧ Post J W (f ρ W.S) D.rt
variable {e : Expr} {es : List Expr}
theorem xe_by {f : Ev} (h : ∀ W ρ σ Q, Sim J.K J.ca W → EnvR J.K W ρ σ → XAt J.K i a dd fs W σ → Post J W (f ρ W.S) Q → ∃ t, PE X e t ∧ t σ W.H Q) : PE X e (DenP J i a dd fs f) :=
  ⟨fun pins s σ H Q I ⟨W, ρ, hH, sm, er, px, p⟩ => by subst hH; obtain ⟨t, ht, q⟩ := h W ρ σ Q sm er px p; exact ht.run pins s σ _ Q I q⟩
theorem xt_by {f : EvB} (h : ∀ W ρ σ Q, Sim J.K J.ca W → EnvR J.K W ρ σ → XAt J.K i a dd fs W σ → PostR J W RB (f ρ W.S) Q → ∃ t, PT X e t ∧ t σ W.H Q) : PT X e (DenPT J i a dd fs f) :=
  ⟨fun pins s σ H Q I ⟨W, ρ, hH, sm, er, px, p⟩ => by subst hH; obtain ⟨t, ht, q⟩ := h W ρ σ Q sm er px p; exact ht.run pins s σ _ Q I q⟩
theorem xw_by {f : EvB} (h : ∀ W ρ σ Q, Sim J.K J.ca W → EnvR J.K W ρ σ → XAt J.K i a dd fs W σ → PostR J W RB (f ρ W.S) Q → ∃ t, PW X e t ∧ t σ W.H Q) : PW X e (DenPT J i a dd fs f) :=
  ⟨fun wh pins s σ H Q I ⟨W, ρ, hH, sm, er, px, p⟩ => by subst hH; obtain ⟨t, ht, q⟩ := h W ρ σ Q sm er px p; exact ht.run wh pins s σ _ Q I q⟩
theorem xa_by {f : EvL} (h : ∀ W ρ σ Q, Sim J.K J.ca W → EnvR J.K W ρ σ → XAt J.K i a dd fs W σ → PostR J W (RL J) (f ρ W.S) Q → ∃ t, PA X es t ∧ t σ W.H Q) : PA X es (DenPL J i a dd fs f) :=
  ⟨fun pos pins s σ H Q I ⟨W, ρ, hH, sm, er, px, p⟩ => by subst hH; obtain ⟨t, ht, q⟩ := h W ρ σ Q sm er px p; exact ht.run pos pins s σ _ Q I q⟩
theorem xs_by {ss : List Stmt} {f : Ev} (h : ∀ W ρ σ D, Sim J.K J.ca W → EnvR J.K W ρ σ → XAt J.K i a dd fs W σ → Post J W (f ρ W.S) D.rt → ∃ t, PSs X ss t ∧ t D σ W.H) : PSs X ss (DenPS J i a dd fs f) :=
  ⟨fun pins s σ H D I ⟨W, ρ, hH, sm, er, px, p⟩ => by subst hH; obtain ⟨t, ht, q⟩ := h W ρ σ D sm er px p; exact ht.run pins s σ _ D I q⟩
theorem x_of {f : Ev} (h : PE X e (Den J f)) : PE X e (DenP J i a dd fs f) := xe_by fun W ρ σ Q sm er px p => ⟨_, h, W, ρ, rfl, sm, er, p⟩
theorem xt_of {f : EvB} (h : PT X e (DenT J f)) : PT X e (DenPT J i a dd fs f) := xt_by fun W ρ σ Q sm er px p => ⟨_, h, W, ρ, rfl, sm, er, p⟩
theorem x_fail : PE X e (DenP J i a dd fs fun _ _ => .fail) := xe_by fun _ _ _ _ _ _ _ p => p.elim
theorem xt_fail : PT X e (DenPT J i a dd fs fun _ _ => .fail) := xt_by fun _ _ _ _ _ _ _ p => p.elim
theorem x_bind {W : Wd} {ρ : EnvD} {σ : L2.St} {f : Ev} {γ δ : Type} {R' : Wd → γ → δ → Prop} {k : D → Store → Res γ} {Q : δ → Hp → Prop} (sm : Sim J.K J.ca W) (er : EnvR J.K W ρ σ) (px : XAt J.K i a dd fs W σ) (p : PostR J W R' ((f ρ W.S).bind k) Q) {Q' : VK}
    (h : ∀ W1 d v, Ext W W1 → Sim J.K J.ca W1 → EnvR J.K W1 ρ σ → XAt J.K i a dd fs W1 σ → Rep J.K W1 d v → PostR J W1 R' (k d W1.S) Q → Q' v W1.H) : DenP J i a dd fs f σ W.H Q' :=
  ⟨W, ρ, rfl, sm, er, px, p.bind.imp fun v H' ⟨W1, d, h1, h2, h3, h4, h5⟩ => by subst h1; exact h W1 d v h2 h3 (er.ext sm h2) (px.ext sm h2) h4 h5⟩
theorem xT_bind {W : Wd} {ρ : EnvD} {σ : L2.St} {f : EvB} {γ δ : Type} {R' : Wd → γ → δ → Prop} {k : Bool → Store → Res γ} {Q : δ → Hp → Prop} (sm : Sim J.K J.ca W) (er : EnvR J.K W ρ σ) (px : XAt J.K i a dd fs W σ) (p : PostR J W R' ((f ρ W.S).bind k) Q) {Q' : Bool → Hp → Prop}
    (h : ∀ W1 b, Ext W W1 → Sim J.K J.ca W1 → EnvR J.K W1 ρ σ → XAt J.K i a dd fs W1 σ → PostR J W1 R' (k b W1.S) Q → Q' b W1.H) : DenPT J i a dd fs f σ W.H Q' :=
  ⟨W, ρ, rfl, sm, er, px, p.bind.imp fun v H' ⟨W1, d, h1, h2, h3, h4, h5⟩ => by subst h1; cases (show d = v from h4); exact h W1 _ h2 h3 (er.ext sm h2) (px.ext sm h2) h5⟩
theorem xL_bind {W : Wd} {ρ : EnvD} {σ : L2.St} {f : EvL} {γ δ : Type} {R' : Wd → γ → δ → Prop} {k : List D → Store → Res γ} {Q : δ → Hp → Prop} (sm : Sim J.K J.ca W) (er : EnvR J.K W ρ σ) (px : XAt J.K i a dd fs W σ) (p : PostR J W R' ((f ρ W.S).bind k) Q) {Q' : List V → Hp → Prop}
    (h : ∀ W1 ds vs, Ext W W1 → Sim J.K J.ca W1 → EnvR J.K W1 ρ σ → XAt J.K i a dd fs W1 σ → Reps J.K W1 ds vs → PostR J W1 R' (k ds W1.S) Q → Q' vs W1.H) : DenPL J i a dd fs f σ W.H Q' :=
  ⟨W, ρ, rfl, sm, er, px, p.bind.imp fun v H' ⟨W1, d, h1, h2, h3, h4, h5⟩ => by subst h1; exact h W1 d v h2 h3 (er.ext sm h2) (px.ext sm h2) h4 h5⟩
end
section
variable {X : Cx} {J : Jd} {Γ : Gm} {lv : Nat} {i : Nat} {a dd : Addr} {fs : List (Str × D)} {r : Expr → Ev} {t : Expr → EvB}
theorem xa_evL' (ih : ∀ e, PE X e (DenP J i a dd fs (r e))) : ∀ {es : List Expr}, noStar es = true → PA X es (DenPL J i a dd fs (evL' r es))
  | [], _ => xa_by fun W ρ σ Q sm er px p => ⟨_, pa_nil, p.val sm rfl⟩
  | e :: es, h => by
    obtain ⟨h1, h2⟩ := noStar_cons h
    refine xa_by fun W ρ σ Q sm er px p => ⟨_, pa_cons (ih e) (xa_evL' ih h2) (not_star h1), ?_⟩
    refine x_bind sm er px p fun W1 d v e1 s1 r1 x1 v1 p1 => ?_
    refine xL_bind s1 r1 x1 p1 fun W2 ds vs e2 s2 r2 x2 v2 p2 => ?_
    exact p2.val s2 ⟨v, vs, rfl, v1.mono s1 e2, v2⟩
theorem xa_evL (ih : ∀ e, PE X e (DenP J i a dd fs (r e))) {es : List Expr} (h : noStar es = true) : PA X es (DenPL J i a dd fs (evL r es)) := by
  unfold evL
  rw [if_pos h]
  exact xa_evL' ih h
theorem xtru_bind (G : Good Γ J X lv) {W : Wd} {ρ : EnvD} {σ : L2.St} {f : Ev} {γ δ : Type} {R' : Wd → γ → δ → Prop} {k : Bool → Store → Res γ} {Q : δ → Hp → Prop} (sm : Sim J.K J.ca W) (er : EnvR J.K W ρ σ) (px : XAt J.K i a dd fs W σ)
    (p : PostR J W R' ((truE f ρ W.S).bind k) Q) {Q' : Bool → Hp → Prop} (h : ∀ W1 b, Ext W W1 → Sim J.K J.ca W1 → EnvR J.K W1 ρ σ → XAt J.K i a dd fs W1 σ → PostR J W1 R' (k b W1.S) Q → Q' b W1.H) : DenP J i a dd fs f σ W.H fun x H1 => ∃ b, TruV X.K x H1 b ∧ Q' b H1 := by
  unfold truE at p
  have p' : PostR J W R' ((f ρ W.S).bind fun d S1 => Res.bind (match truD S1 d with | some b => .ok b S1 | none => .fail) k) Q := by
    cases hr : f ρ W.S <;> rw [hr] at p <;> exact p
  refine x_bind sm er px p' fun W1 d v e1 s1 r1 x1 v1 p1 => ?_
  split at p1
  · rename_i b hb
    exact ⟨b, truD_at G.K s1 hb v1, h W1 b e1 s1 r1 x1 p1⟩
  · exact p1.elim
theorem x_not (G : Good Γ J X lv) (ih : ∀ e, PE X e (DenP J i a dd fs (r e))) {z : Expr} {pos : Pos} : PE X (.UnaryOp .Not z pos) (DenP J i a dd fs fun ρ S => (truE (r z) ρ S).bind fun b S1 => .ok (.bl (!b)) S1) := by
  refine xe_by fun W ρ σ Q sm er px p => ⟨_, pe_notT (ih z), ?_⟩
  exact xtru_bind G (Q' := fun b H => Q (.bl (!b)) H) sm er px p fun W1 b e1 s1 r1 x1 p1 => p1.val s1 rfl
theorem x_and (G : Good Γ J X lv) (ih : ∀ e, PE X e (DenP J i a dd fs (r e))) {pos : Pos} : ∀ {es : List Expr}, PE X (.BoolOp .And es pos) (DenP J i a dd fs (andE r es))
  | [] => x_fail
  | [z] => bool_one (ih z)
  | z :: b :: es => by
    refine xe_by fun W ρ σ Q sm er px p => ⟨_, pe_andT (ih z) (x_and G ih (es := b :: es)), ?_⟩
    refine x_bind sm er px p fun W1 d v e1 s1 r1 x1 v1 p1 => ?_
    split at p1
    · rename_i hb
      exact ⟨true, truD_at G.K s1 hb v1, W1, ρ, rfl, s1, r1, x1, p1⟩
    · rename_i hb
      exact ⟨false, truD_at G.K s1 hb v1, p1.val s1 v1⟩
    · exact p1.elim
theorem x_or (G : Good Γ J X lv) (ih : ∀ e, PE X e (DenP J i a dd fs (r e))) {pos : Pos} : ∀ {es : List Expr}, PE X (.BoolOp .Or es pos) (DenP J i a dd fs (orE r es))
  | [] => x_fail
  | [z] => bool_one (ih z)
  | z :: b :: es => by
    refine xe_by fun W ρ σ Q sm er px p => ⟨_, pe_orT (ih z) (x_or G ih (es := b :: es)), ?_⟩
    refine x_bind sm er px p fun W1 d v e1 s1 r1 x1 v1 p1 => ?_
    split at p1
    · rename_i hb
      exact ⟨false, truD_at G.K s1 hb v1, W1, ρ, rfl, s1, r1, x1, p1⟩
    · rename_i hb
      exact ⟨true, truD_at G.K s1 hb v1, p1.val s1 v1⟩
    · exact p1.elim
theorem x_andT (ih : ∀ e, PT X e (DenPT J i a dd fs (t e))) {pos : Pos} : ∀ {es : List Expr}, PW X (.BoolOp .And es pos) (DenPT J i a dd fs (andT t es))
  | [] => xw_by fun _ _ _ _ _ _ _ p => p.elim
  | [z] => pw_and1 (ih z)
  | z :: b :: es => by
    refine xw_by fun W ρ σ Q sm er px p => ⟨_, pw_and (ih z) (x_andT ih (es := b :: es)), ?_⟩
    refine xT_bind sm er px p fun W1 c e1 s1 r1 x1 p1 => ?_
    cases c with
    | true => exact ⟨W1, ρ, rfl, s1, r1, x1, p1⟩
    | false => exact p1.val s1 rfl
theorem x_orT (ih : ∀ e, PT X e (DenPT J i a dd fs (t e))) {pos : Pos} : ∀ {es : List Expr}, PW X (.BoolOp .Or es pos) (DenPT J i a dd fs (orT t es))
  | [] => xw_by fun _ _ _ _ _ _ _ p => p.elim
  | [z] => pw_or1 (ih z)
  | z :: b :: es => by
    refine xw_by fun W ρ σ Q sm er px p => ⟨_, pw_or (ih z) (x_orT ih (es := b :: es)), ?_⟩
    refine xT_bind sm er px p fun W1 c e1 s1 r1 x1 p1 => ?_
    cases c with
    | true => exact p1.val s1 rfl
    | false => exact ⟨W1, ρ, rfl, s1, r1, x1, p1⟩
theorem x_ifexp (ih : ∀ e, PE X e (DenP J i a dd fs (r e))) (iht : ∀ e, PT X e (DenPT J i a dd fs (t e))) {c z b : Expr} {pos : Pos} : PE X (.IfExp c z b pos) (DenP J i a dd fs fun ρ S => (t c ρ S).bind fun t S1 => if t then r z ρ S1 else r b ρ S1) := by
  refine xe_by fun W ρ σ Q sm er px p => ⟨_, pe_ifExp (iht c) (ih z) (ih b), ?_⟩
  refine xT_bind sm er px p fun W1 c e1 s1 r1 x1 p1 => ?_
  cases c with
  | true => exact ⟨W1, ρ, rfl, s1, r1, x1, p1⟩
  | false => exact ⟨W1, ρ, rfl, s1, r1, x1, p1⟩
theorem x_tuple (ih : ∀ e, PE X e (DenP J i a dd fs (r e))) {es : List Expr} {k : Nat} {pos : Pos} : PE X (.Tuple es k pos) (DenP J i a dd fs fun ρ S => (evL r es ρ S).bind fun ds S1 => if ds.length ≤ sizeLine then .ok (.tup ds) S1 else .fail) := by
  refine xe_by fun W ρ σ Q sm er px p => ⟨_, pe_tup (xa_evL ih (evL_cases p)), ?_⟩
  refine xL_bind sm er px p fun W1 ds vs e1 s1 r1 x1 v1 p1 => ?_
  split at p1
  · rename_i hz
    exact ⟨by rw [v1.length]; exact hz, post_tup s1 v1 p1⟩
  · exact p1.elim
theorem x_list (ih : ∀ e, PE X e (DenP J i a dd fs (r e))) {es : List Expr} {pos : Pos} : PE X (.List es pos) (DenP J i a dd fs fun ρ S => (evL r es ρ S).bind fun ds S1 => if ds.length ≤ sizeLine then newL ds S1 else .fail) := by
  refine xe_by fun W ρ σ Q sm er px p => ⟨_, pe_lst (xa_evL ih (evL_cases p)), ?_⟩
  refine xL_bind sm er px p fun W1 ds vs e1 s1 r1 x1 v1 p1 => ?_
  split at p1
  · rename_i hz
    exact ⟨by rw [v1.length]; exact hz, post_list s1 v1 p1⟩
  · exact p1.elim

/-- the suite's context -/
theorem Good.suite (G : Good Γ J X lv) (hh : Γ.hot = false) {a : Addr} {oe : Obj} {cls : Value} {d : Option Addr} {pn : List (Addr × Obj)} (hz : L2N.Zn cls d oe) (hf : ∃ vs, oe.data = .fields vs) : Good Γ.hoty J.quiet (X.suite a ((a, oe) :: pn)) lv where
  K := G.K
  N := G.N
  nd := G.nd
  sc := G.sc
  kind := G.kind
  fn := G.fn
  calm := fun h => nomatch (show true = false from h)
  tab := G.tab
  room := fun h => nomatch (show true = false from h)
  hotc := fun _ => by
    refine ⟨⟨(a, oe), ⟨rfl, ?_⟩, List.mem_cons_self⟩, ?_⟩
    · obtain ⟨vs, hv⟩ := hf
      exact ⟨vs, hv, hz.2.2 vs hv⟩
    · have r := G.room hh
      exact ⟨r.dp, r.un⟩
  pass := passN
  own := PassesOwn.never
  takes := takesN
section
variable {oe : Obj} {pn : List (Addr × Obj)} {C : Str} {n : Nat}
theorem x_slot (G : Good Γ J X lv) {y : Str} {p : Pos} (hy : Γ.slot y = some i) (ho : okName y = true) : PE X (.Name y p) (tVar i) := by
  obtain ⟨h1, h2, _⟩ := okName_at ho
  obtain ⟨h4, h5⟩ := slot_at G hy
  exact pe_var h4 h5 h1 h2
theorem x_attr (G : Good Γ.hoty J (X.suite a ((a, oe) :: pn)) lv) (hz : Zc (.ref (J.ca C)) (some dd) oe) (hf : ∃ vs, oe.data = .fields vs) {x y f : Str} {p q : Pos} (hy : Γ.slot y = some i) (ho : okName y = true) :
    PE (X.suite a ((a, oe) :: pn)) (.Attribute (.Name y p) f q) (DenP J i a dd fs (xattrE Γ.hoty ⟨x, C, fs⟩ f)) := by
  refine xe_by fun W ρ σ Q sm er px pp => ?_
  unfold xattrE at pp
  split at pp
  · rename_i hx
    split at pp
    · rename_i d hd
      obtain ⟨k1, k2⟩ := G.tab.xattr C f hx
      have hs : PE (X.suite a ((a, oe) :: pn)) (.Name y p) (tVar i) := x_slot G (Γ := Γ.hoty) hy ho
      obtain ⟨p1, fv, p2, p3⟩ := px
      obtain ⟨v, l1, l2⟩ := p3.look hd
      refine ⟨_, pe_xf k1 k2 hz hf hs (abase rfl), .ref a, p1, rfl, rfl, dd, fv, v, rfl, p2, l1, pp.val sm l2⟩
    · exact pp.elim
  · exact pp.elim
theorem x_is (G : Good Γ.hoty J (X.suite a ((a, oe) :: pn)) lv) (hz : Zc (.ref (J.ca C)) (some dd) oe) (hf : ∃ vs, oe.data = .fields vs) {x y C2 : Str} {p p1 p2 q : Pos} (hy : Γ.slot y = some i) (ho : okName y = true) :
    PE (X.suite a ((a, oe) :: pn)) (.Call (.Name "isinstance" p) [.Name y p1, .Name C2 p2] [] q) (DenP J i a dd fs (xisE Γ.hoty ⟨x, C, fs⟩ C2)) := by
  refine xe_by fun W ρ σ Q sm er px pp => ?_
  unfold xisE at pp
  split at pp
  · rename_i hc
    simp only [Bool.and_eq_true, decide_eq_true_eq] at hc
    obtain ⟨⟨c1, c2⟩, c3⟩ := hc
    split at pp
    · rename_i b hb
      obtain ⟨k, km, kk⟩ := G.tab.xis C C2 b hb
      obtain ⟨g1, _⟩ := isGl_at G c1
      obtain ⟨g2, g3⟩ := isGl_at G c3
      obtain ⟨n1, n2, n3⟩ := okName_at g3
      have hs : PE (X.suite a ((a, oe) :: pn)) (.Name y p1) (tVar i) := x_slot G (Γ := Γ.hoty) hy ho
      have cr : CallR (X.suite a ((a, oe) :: pn)) (.builtin "isinstance") (fun xs H Q => xs = [.ref a, .ref (J.ca C2)] ∧ (∃ fv, H dd = some (.xd fv)) ∧ Q (.bl b) H) := by
        intro pins s σ H xs us Q I rr h
        obtain ⟨rfl, ⟨fv, hfv⟩, qq⟩ := h
        cases rr with
        | cons rx rr =>
          cases rr with
          | cons rt rr =>
            cases rr
            cases rx
            cases rt
            obtain ⟨hget, _⟩ := I.pin (a, oe) (List.mem_append.mpr (.inl List.mem_cons_self))
            obtain ⟨vs, hv⟩ := hf
            obtain ⟨mA, hns, hr⟩ := I.hok dd _ hfv
            obtain ⟨od, ho2, hl⟩ := lookIn_ns hns
            have JJ : PySem.W.InstAt s.heap a oe (J.ca C) (some od) := ⟨hget, hz.1, by unfold PySem.W.notCls; rw [hv] <;> rfl, by rw [hz.2]; exact ho2⟩
            exact PySem.W.kia_one (PySem.W.kitx_exc k.cl k.ga k.gt k.ex k.kc k.kg k.kt k.km) I.kIn JJ kk (fun z => nomatch z) fun tk => ⟨.bl b, H, I.kept (t' := tk) fun _ _ z => z, rfl, qq⟩
      refine ⟨_, pe_callB cr g1 (G.tab.bis _ c2) (by decide +kernel) (pa_cons hs (pa_cons (pe_glob (v := .ref (J.ca C2)) g2 km rfl n1) pa_nil)) (by decide +kernel) (by decide +kernel), ?_⟩
      obtain ⟨z1, fv, z2, z3⟩ := px
      exact ⟨.ref a, z1, rfl, ⟨fv, z2⟩, pp.val sm rfl⟩
    · exact pp.elim
  · exact pp.elim
/-- isinstance(e, T) -/
theorem x_isi (G : Good Γ J X lv) (ih : ∀ e, PE X e (DenP J i a dd fs (r e))) {es : List Expr} {p pos : Pos} (hg : Gl X "isinstance") (hm : ("isinstance" : Str) ∈ Γ.T.bis) : PE X (.Call (.Name "isinstance" p) es [] pos) (DenP J i a dd fs (isiE Γ r es)) := by
  refine xe_by fun W ρ σ Q sm er px q => ?_
  unfold isiE at q
  split at q
  · rename_i e tn tp
    split at q
    · rename_i h
      rw [Bool.and_eq_true] at h
      have hm2 := G.tab.bis tn (of_decide_eq_true h.2)
      obtain ⟨g1, g2⟩ := isGl_at G h.1
      split at q
      · rename_i T hT
        obtain ⟨t1, t2, t3⟩ := tyF_at hT
        split at q
        · exact q.elim
        · rename_i hs
          refine ⟨_, pe_callB (ok_isi G.K T) hg (G.tab.bis _ hm) (by decide +kernel) (pa_cons (ih e) (pa_cons (pe_bltn (v := .ty T) g1 hm2 t1 rfl t2 t3) pa_nil) (not_star (by simpa using hs))) (by decide +kernel) (by decide +kernel) (not_star (by simpa using hs)), ?_⟩
          refine x_bind sm er px q fun W1 d v e1 s1 r1 x1 v1 p1 => ?_
          exact ⟨v, rfl, W1, [d], rfl, s1, ⟨v, [], rfl, v1, rfl⟩, p1⟩
      · exact q.elim
    · exact q.elim
  · exact q.elim
/-- a call there -/
theorem x_hot (G : Good Γ J X lv) (hh : Γ.hot = true) (ih : ∀ e, PE X e (DenP J i a dd fs (r e))) {x : Str} {es : List Expr} {p pos : Pos} : PE X (.Call (.Name x p) es [] pos) (DenP J i a dd fs (hotE Γ r x es)) := by
  unfold hotE
  by_cases hg : Γ.isGl x = true
  · obtain ⟨g1, g2⟩ := isGl_at G hg
    obtain ⟨n1, n2, n3⟩ := okName_at g2
    simp only [hg, if_true]
    cases hc : Γ.T.callH x with
    | some f =>
      obtain ⟨a', fd, ps, h1, h2, h3, h4⟩ := G.tab.callH x f hc
      cases es with
      | nil => exact x_fail
      | cons e es =>
        refine xe_by fun W ρ σ Q sm er px q => ?_
        have q : Post J W ((evL r (e :: es) ρ W.S).bind f) Q := q
        obtain ⟨m1, m2⟩ := noStar_cons (evL_cases q)
        refine ⟨_, L2H.pe_callH (E := fun _ => J.E) h4 (G.hotc hh).2 (G.hotc hh).1 g1 h1 h2 h3 (fun σ pins H s e s' I c => G.pass pins σ H s e s' I c) (xa_evL ih (evL_cases q)) n1 (not_star m1) (star_none m2), ?_⟩
        exact xL_bind sm er px q fun W1 ds vs e1 s1 r1 x1 v1 p1 => call_end G.K s1 v1 p1
    | none =>
      by_cases hm : x ∈ Γ.T.bis
      · simp only [decide_eq_true hm, if_true]
        by_cases hi : x = "isinstance"
        · subst hi
          simp only [if_true]
          exact x_isi G ih g1 hm
        · simp only [hi, if_false]
          by_cases hl : x = "len"
          · subst hl
            simp only [if_true]
            cases es with
            | nil => exact x_fail
            | cons e es =>
              refine xe_by fun W ρ σ Q sm er px q => ?_
              have q : Post J W ((evL r (e :: es) ρ W.S).bind lenD) Q := q
              obtain ⟨m1, m2⟩ := noStar_cons (evL_cases q)
              exact ⟨_, pe_callB (ok_len G.K) g1 (G.tab.bis _ hm) (by decide +kernel) (xa_evL ih (evL_cases q)) (by decide +kernel) (by decide +kernel) (not_star m1) (star_none m2), xL_bind sm er px q fun W1 ds vs e1 s1 r1 x1 v1 p1 => ⟨W1, ds, rfl, s1, v1, p1⟩⟩
          · simp only [hl, if_false]
            exact x_fail
      · simp only [decide_eq_false hm]
        exact x_fail
  · simp only [hg]
    exact x_fail
/-- all that a suite says -/
theorem x_step (G : Good Γ.hoty J (X.suite a ((a, oe) :: pn)) lv) (hz : Zc (.ref (J.ca C)) (some dd) oe) (hf : ∃ vs, oe.data = .fields vs) {x : Str} (ih : ∀ e, PE (X.suite a ((a, oe) :: pn)) e (DenP J i a dd fs (r e))) (iht : ∀ e, PT (X.suite a ((a, oe) :: pn)) e (DenPT J i a dd fs (t e))) :
    (∀ e, PE (X.suite a ((a, oe) :: pn)) e (DenP J i a dd fs (hxStep Γ.hoty n ⟨x, C, fs⟩ i r t e))) ∧ ∀ e, PT (X.suite a ((a, oe) :: pn)) e (DenPT J i a dd fs (hxStepT Γ.hoty n ⟨x, C, fs⟩ i r t e)) := by
  have hE : ∀ e, PE (X.suite a ((a, oe) :: pn)) e (DenP J i a dd fs (hxStep Γ.hoty n ⟨x, C, fs⟩ i r t e)) := fun e => by
    unfold hxStep
    split
    · split
      · rename_i h
        exact x_attr G hz hf h.1 h.2
      · exact x_of ((sound n _ J _ G).1 _)
    · exact x_tuple ih
    · exact x_list ih
    · exact x_and G ih
    · exact x_or G ih
    · exact x_not G ih
    · exact x_ifexp ih iht
    · split
      · rename_i h
        obtain ⟨h1, h2, h3⟩ := h
        subst h1
        exact x_is G hz hf h2 h3
      · exact x_hot G rfl ih
    · exact x_hot G rfl ih
    · exact x_of ((sound n _ J _ G).1 _)
  refine ⟨hE, fun e => ?_⟩
  unfold hxStepT
  split
  · exact (x_andT iht).pt
  · exact (x_orT iht).pt
  · rename_i z pos
    refine xt_by fun W ρ σ Q sm er px p => ⟨_, pt_not (iht z), ?_⟩
    exact xT_bind sm er px p fun W1 b e1 s1 r1 x1 p1 => p1.val s1 rfl
  · exact xt_fail
  · exact xt_of ((sound n _ J _ G).2 _)
  · rename_i q1 q2 q3 q4 q5
    have hw : ∀ whole, isTrue e (X.suite a ((a, oe) :: pn)).env whole = (do let v ← whole; standAt e.pos; holding [v] (truthy v)) := fun whole => by
      cases e with
      | BoolOp op es pos =>
        cases op with
        | And => exact (q1 _ _ rfl).elim
        | Or => exact (q2 _ _ rfl).elim
      | UnaryOp op a pos => cases op <;> first | rfl | exact (q3 _ _ rfl).elim
      | IfExp a b c pos => exact (q4 _ _ _ _ rfl).elim
      | Compare a ops bs pos => exact (q5 _ _ _ _ rfl).elim
      | _ => rfl
    refine xt_by fun W ρ σ Q sm er px p => ⟨_, pt_truth (hE e) hw, ?_⟩
    have p' : PostR J W RB ((truE (hxStep Γ.hoty n ⟨x, C, fs⟩ i r t e) ρ W.S).bind fun b S1 => .ok b S1) Q := by
      cases hr : truE (hxStep Γ.hoty n ⟨x, C, fs⟩ i r t e) ρ W.S <;> rw [hr] at p <;> exact p
    exact xtru_bind G (Q' := Q) sm er px p' fun W1 b e1 s1 r1 x1 p1 => p1.val s1 rfl
theorem x_sound (G : Good Γ.hoty J (X.suite a ((a, oe) :: pn)) lv) (hz : Zc (.ref (J.ca C)) (some dd) oe) (hf : ∃ vs, oe.data = .fields vs) {x : Str} : ∀ k,
    (∀ e, PE (X.suite a ((a, oe) :: pn)) e (DenP J i a dd fs ((hxs Γ.hoty n ⟨x, C, fs⟩ i k).1 e))) ∧ ∀ e, PT (X.suite a ((a, oe) :: pn)) e (DenPT J i a dd fs ((hxs Γ.hoty n ⟨x, C, fs⟩ i k).2 e))
  | 0 => ⟨fun _ => x_fail, fun _ => xt_fail⟩
  | k + 1 => x_step G hz hf (x_sound G hz hf k).1 (x_sound G hz hf k).2
/-- return e, whatever follows -/
theorem pss_ret_any {e : Expr} {te : TE} {pos : Pos} {rest : List Stmt} (he : PE X e te) : PSs X (.Return (some e) pos :: rest) (tRet te) := by
  refine ⟨fun pins s σ H D I h => ?_⟩
  refine wpAny_execs_cons (thn ((ps_ret he).run pins s σ H { D with nx := fun _ _ => False, bk := fun _ _ => False, ct := fun _ _ => False } I h) fun f s1 q => ?_)
  cases f with
  | ret u => exact q
  | next => obtain ⟨_, _, _, z⟩ := q; exact z.elim
  | brk => obtain ⟨_, _, _, z⟩ := q; exact z.elim
  | cont => obtain ⟨_, _, _, z⟩ := q; exact z.elim
theorem x_suite (ih : ∀ e, PE X e (DenP J i a dd fs (r e))) (iht : ∀ e, PT X e (DenPT J i a dd fs (t e))) : ∀ (k : Nat) (ss : List Stmt), PSs X ss (DenPS J i a dd fs (hxR r t k ss))
  | 0, ss => xs_by fun W ρ σ D sm er px p => p.elim
  | k + 1, ss => by
    unfold hxR
    split
    · rename_i e pos rest
      exact xs_by fun W ρ σ D sm er px p => ⟨_, pss_ret_any (ih e), W, ρ, rfl, sm, er, px, p⟩
    · rename_i c b pos rest
      refine xs_by fun W ρ σ D sm er px p => ⟨_, pss_cons (ps_if (iht c) (x_suite ih iht k b) pss_nil) (x_suite ih iht k rest), ?_⟩
      refine xT_bind sm er px p fun W1 v e1 s1 r1 x1 p1 => ?_
      cases v with
      | true => exact ⟨W1, ρ, rfl, s1, r1, x1, p1⟩
      | false => exact ⟨W1, ρ, rfl, s1, r1, x1, p1⟩
    · exact xs_by fun W ρ σ D sm er px p => p.elim
end
end
end E

set_option linter.all false
set_option maxRecDepth 100000
set_option maxHeartbeats 4000000
/- Evaluator E, part J: statements. -/
namespace E
open PySem PySem.Spec PyProof.Rows L2
inductive FlV where
  | next (σ : L2.St) | ret (v : V) | brk (σ : L2.St) | cont (σ : L2.St)
def RF (J : Jd) : Wd → Fl → FlV → Prop := fun W f g => match f, g with
  | .next ρ, .next σ => EnvR J.K W ρ σ
  | .ret d, .ret v => Rep J.K W d v
  | .brk ρ, .brk σ => EnvR J.K W ρ σ
  | .cont ρ, .cont σ => EnvR J.K W ρ σ
  | _, _ => False
def QF (D : Ends) : FlV → Hp → Prop := fun f H => match f with
  | .next σ => D.nx σ H
  | .ret v => D.rt v H
  | .brk σ => D.bk σ H
  | .cont σ => D.ct σ H
def DenS (J : Jd) (f : EvS) : TS := fun D σ H => ∃ W ρ, W.H = H ∧ Sim J.K J.ca W ∧ EnvR J.K W ρ σ ∧ PostR J W (RF J) (f ρ W.S) (QF D)
/-- how an exception of the class C is made: for TabOk's exc, which the statements ask -/
def RaiseOk (P : Program) (w : World) (K : PySem.W.Frag) (mg : Str → Option Value) (base : Heap) (ca : Str → Addr) (lv : Nat) (C : Str) (fs : List Str) : Prop :=
  ∀ (X : Cx) (es : List Expr) (ta : TA) (p pos : Pos), X.prog = P → X.w = w → X.K = K → X.mg = mg → X.base = base → X.calm = true → Room lv X.A → Gl X C → PA X es ta → noStar es = true → es ≠ [] →
    L2N.PMk X (.Call (.Name C p) es [] pos) (fun σ H Q => ta σ H fun vs H1 => vs.length = fs.length ∧ ∀ d, H1 d = none → Q (.ref (ca C)) (some d) (upd H1 d (.xd (fs.zip vs))))
def ExcOk (T : Tab) (P : Program) (w : World) (K : PySem.W.Frag) (mg : Str → Option Value) (base : Heap) (ca : Str → Addr) (lv : Nat) : Prop := ∀ C fs, T.exc C = some fs → fs ≠ [] ∧ RaiseOk P w K mg base ca lv C fs
section
variable {X : Cx} {J : Jd} {Γ : Gm} {lv : Nat} {st : Stmt}
theorem ps_by {f : EvS} (h : ∀ W ρ σ D, Sim J.K J.ca W → EnvR J.K W ρ σ → PostR J W (RF J) (f ρ W.S) (QF D) → ∃ t, PS X st t ∧ t D σ W.H) : PS X st (DenS J f) :=
  ⟨fun pins s σ H D I ⟨W, ρ, hH, sm, er, p⟩ => by subst hH; obtain ⟨t, ht, q⟩ := h W ρ σ D sm er p; exact ht.run pins s σ _ D I q⟩
theorem pss_by {ss : List Stmt} {f : EvS} (h : ∀ W ρ σ D, Sim J.K J.ca W → EnvR J.K W ρ σ → PostR J W (RF J) (f ρ W.S) (QF D) → ∃ t, PSs X ss t ∧ t D σ W.H) : PSs X ss (DenS J f) :=
  ⟨fun pins s σ H D I ⟨W, ρ, hH, sm, er, p⟩ => by subst hH; obtain ⟨t, ht, q⟩ := h W ρ σ D sm er p; exact ht.run pins s σ _ D I q⟩
theorem ps_fail : PS X st (DenS J fun _ _ => .fail) := ps_by fun _ _ _ _ _ _ p => p.elim
/-- to go on -/
theorem PostR.nxt {W : Wd} {ρ : EnvD} {σ : L2.St} {D : Ends} (sm : Sim J.K J.ca W) (er : EnvR J.K W ρ σ) (p : PostR J W (RF J) (.ok (.next ρ) W.S) (QF D)) : D.nx σ W.H := PostR.val (R := RF J) (a := .next ρ) (b := .next σ) (Q := QF D) sm er p
theorem PostR.rtn {W : Wd} {d : D} {v : V} {D : Ends} (sm : Sim J.K J.ca W) (r : Rep J.K W d v) (p : PostR J W (RF J) (.ok (.ret d) W.S) (QF D)) : D.rt v W.H := PostR.val (R := RF J) (a := .ret d) (b := .ret v) (Q := QF D) sm r p
theorem sw_plain {v : Expr} {tg : Option Expr} {l : Nat} {env : Env} (h : isComp v = false) : swapsWith v tg l env = pure false := by
  cases v <;> first | rfl | cases h
theorem sw_other {v t : Expr} {l : Nat} {env : Env} (h : ∀ x p, t ≠ .Name x p) : swapsWith v (some t) l env = pure false := by
  cases v <;> first
    | rfl
    | (cases t <;> first | rfl | exact absurd rfl (h _ _))
def swC (env : Env) (t : Str) (pos vpos : Pos) (scope : Scope) : Bool := env.blockKind == .function && env.kindOf t == some .local && pos.line == vpos.line && !(scope.names.any fun (n, k) => n == t && (k == .local || k == .cell))
theorem sw_comp {elt : Expr} {gs : List Comprehension} {scope : Scope} {vpos pos : Pos} {t : Str} {l : Nat} {env : Env} : swapsWith (.ListComp elt gs scope vpos) (some (.Name t pos)) l env = pure (swC env t pos vpos scope) := rfl
theorem d_set (G : Good Γ J X lv) {n : Nat} {x : Str} {v : Expr} {p pos : Pos} : PS X (.Assign [.Name x p] v pos) (DenS J (asgE Γ (ev Γ n) (.Name x p) v)) := by
  refine ps_by fun W ρ σ D sm er q => ?_
  have q : PostR J W (RF J) (match Γ.setI x with | some i => (ev Γ n v ρ W.S).bind fun d S1 => .ok (.next (ρ.set i (some d))) S1 | none => .fail) (QF D) := q
  split at q
  · rename_i i hi
    obtain ⟨g1, g2, g3, g4⟩ := setI_at G hi
    have nx : Post J W (ev Γ n v ρ W.S) fun y H1 => D.nx (σ.set i (some y)) H1 := q.bind.imp fun y H1 ⟨W1, d, h1, h2, h3, h4, h5⟩ => by
      subst h1
      exact PostR.nxt h3 ((er.ext sm h2).set h4) h5
    have plain : swapsWith v (some (.Name x p)) pos.line X.env = pure false → ∃ t, PS X (.Assign [.Name x p] v pos) t ∧ t D σ W.H := fun hw =>
      ⟨_, ps_set G.nd g2 g3 ((sound n Γ J X G).1 v) hw g4, W, ρ, rfl, sm, er, nx⟩
    cases n with
    | zero => exact nx.elim
    | succ n =>
      cases v with
      | ListComp elt gs scope vpos =>
        cases hw : swC X.env x p vpos scope with
        | false => exact plain (by rw [sw_comp, hw])
        | true =>
          have nx : Post J W (stepE Γ (evs n).1 (evs n).2 (.ListComp elt gs scope vpos) ρ W.S) fun y H1 => D.nx (σ.set i (some y)) H1 := nx
          have hl : X.env.scope.names.lookup x = some .local := by
            unfold swC at hw
            simp only [Bool.and_eq_true, beq_iff_eq] at hw
            exact hw.1.1.2
          generalize hst : stepE Γ (evs n).1 (evs n).2 (.ListComp elt gs scope vpos) = f at nx
          unfold stepE at hst
          split at hst
          all_goals first
            | (rename Expr.ListComp elt gs scope vpos = _ => e; cases e; done)
            | (rename Expr.ListComp elt gs scope vpos = _ => e; cases e; split at hst; (subst hst; exact nx.elim); rename_i hf; have hf : Γ.hot = false := (by simpa using hf); subst hst; exact d_setLc G hf (fun Γ J X G => sound n Γ J X G) g2 hl (by rw [sw_comp, hw]) sm er nx)
            | (subst hst; exact nx.elim)
            | skip
      | SetComp _ _ _ _ => exact nx.elim
      | DictComp _ _ _ _ _ => exact nx.elim
      | _ => exact plain (sw_plain rfl)
  · exact q.elim
theorem d_setA (G : Good Γ J X lv) {n : Nat} {o v : Expr} {f : Str} {p pos : Pos} : PS X (.Assign [.Attribute o f p] v pos) (DenS J (asgE Γ (ev Γ n) (.Attribute o f p) v)) := by
  refine ps_by fun W ρ σ D sm er q => ?_
  have ih := (sound n Γ J X G).1
  have q : PostR J W (RF J) (if isComp v || isCall0 o then .fail else (ev Γ n v ρ W.S).bind fun d S1 => (ev Γ n o ρ S1).bind fun ov S2 => (match putE Γ.T f ov d S2 with | some S3 => .ok (.next ρ) S3 | none => .fail)) (QF D) := q
  split at q
  · exact q.elim
  · rename_i hc
    simp only [Bool.or_eq_true, not_or, Bool.not_eq_true] at hc
    refine ⟨_, ps_fld (ih o) (ih v) (sw_plain hc.1), ?_⟩
    refine den_bind sm er q fun W1 d y e1 s1 r1 v1 p1 => ?_
    refine den_bind s1 r1 p1 fun W2 ov x e2 s2 r2 v2 p2 => ?_
    split at p2
    · rename_i S3 hp
      cases ov with
      | ref m =>
        have hp : (match cellI W2.S m with | some (C, fs) => if Γ.T.attr C f ∧ fs.length < 1000 then some (W2.S.set m (some (.ins C (putD f d fs)))) else none | none => none) = some S3 := hp
        split at hp
        · rename_i C fs hi
          split at hp
          · rename_i ha
            cases hp
            have hcell : W2.S[m]? = some (some (.ins C fs)) := by
              unfold cellI at hi
              split at hi
              · cases hi; assumption
              · cases hi
            obtain ⟨a, dx, fv, rfl, hf, h2, h3⟩ := s2.ins_at hcell v2
            obtain ⟨c1, c2⟩ := G.tab.attr C f ha.1
            obtain ⟨u1, u2⟩ := put_ins (dx := dx) s2 hcell hf (h3.put (v1.mono s1 e2))
            refine ⟨a, _, dx, fv, rfl, h2, c1, c2, by rw [h3.length]; exact ha.2, ?_⟩
            exact PostR.nxt u2 (r2.ext s2 u1) (p2.ext u1)
          · cases hp
        · cases hp
      | _ => cases hp
    · exact p2.elim
theorem asg_sub {o i : Expr} {p : Pos} {env : Env} (h : isSlice i = false) (v : Value) : assign (.Subscript o i p) env v = (do
      let ov ← holding [v] (eval o env)
      let iv ← holding [v, ov] (eval i env)
      standAt p
      holding [v, ov, iv] (setItem ov iv v)
      release [v, ov, iv] []) := by
  cases i <;> first | rfl | cases h
theorem d_setI (G : Good Γ J X lv) {n : Nat} {o i v : Expr} {p pos : Pos} : PS X (.Assign [.Subscript o i p] v pos) (DenS J (asgE Γ (ev Γ n) (.Subscript o i p) v)) := by
  refine ps_by fun W ρ σ D sm er q => ?_
  have ih := (sound n Γ J X G).1
  have q : PostR J W (RF J) (if isSlice i then .fail else (ev Γ n v ρ W.S).bind fun d S1 => (ev Γ n o ρ S1).bind fun ov S2 => (ev Γ n i ρ S2).bind fun iv S3 => (match setIxE ov iv d S3 with | some S4 => .ok (.next ρ) S4 | none => .fail)) (QF D) := q
  split at q
  · exact q.elim
  · rename_i hsl
    refine ⟨_, ps_asg (ih v) (pg_sub (ih o) (ih i) set_list (asg_sub (by simpa using hsl))) (hs := (sw_other (fun x p e => nomatch e) : swapsWith v (some (Expr.Subscript o i p)) pos.line X.env = pure false)) (hw := rfl) (h1 := rfl), ?_⟩
    refine den_bind sm er q fun W1 d y e1 s1 r1 v1 p1 => ?_
    refine den_bind s1 r1 p1 fun W2 ov x e2 s2 r2 v2 p2 => ?_
    refine den_bind s2 r2 p2 fun W3 iv z e3 s3 r3 v3 p3 => ?_
    split at p3
    · rename_i S4 hp
      unfold setIxE at hp
      split at hp
      · rename_i m k
        split at hp
        · rename_i ds hd
          obtain ⟨j, h1, h2⟩ := Option.map_eq_some_iff.mp hp
          subst h2
          obtain ⟨c0, a, vs, rfl, hf, ha, ra⟩ := cellL_at s3 hd (v2.mono s2 e3)
          cases (show z = _ from v3)
          obtain ⟨u1, u2⟩ := put_list s3 c0 hf (ra.set j ((v1.mono s1 e2).mono s2 e3))
          refine ⟨a, vs, k, j, rfl, rfl, ha, by rw [ra.length]; exact h1, ?_⟩
          exact PostR.nxt u2 (r3.ext s3 u1) (p3.ext u1)
        · cases hp
      · cases hp
    · exact p3.elim
theorem d_setT (G : Good Γ J X lv) {n : Nat} {ts : List Expr} {v : Expr} {k : Nat} {p pos : Pos} : PS X (.Assign [.Tuple ts k p] v pos) (DenS J (asgE Γ (ev Γ n) (.Tuple ts k p) v)) := by
  refine ps_by fun W ρ σ D sm er q => ?_
  have ih := (sound n Γ J X G).1
  have q : PostR J W (RF J) (if isTup v || Γ.hot then .fail else (ev Γ n v ρ W.S).bind fun d S1 => (match d with | .tup ds => (match setsE Γ ts ds ρ with | some ρ1 => .ok (.next ρ1) S1 | none => .fail) | _ => .fail)) (QF D) := q
  split at q
  · exact q.elim
  · rename_i ht
    simp only [Bool.or_eq_true, not_or, Bool.not_eq_true] at ht
    obtain ⟨ht, hh⟩ := ht
    have hw : swappedStores [.Tuple ts k p] v X.env = pure none := by
      cases v <;> first | rfl | cases ht
    refine ⟨_, ps_asg (ih v) (d_tg G (t := .Tuple ts k p)) (hs := (sw_other (fun x p e => nomatch e) : swapsWith v (some (Expr.Tuple ts k p)) pos.line X.env = pure false)) (hw := hw) (h1 := rfl), ?_⟩
    refine den_bind sm er q fun W1 d y e1 s1 r1 v1 p1 => ?_
    split at p1
    · rename_i ds
      split at p1
      · rename_i ρ1 hs
        exact ⟨W1, .tup ds, ρ, ρ1, rfl, s1, v1, r1, (by show (if Γ.hot = true then none else setsE Γ ts ds ρ) = some ρ1; rw [hh]; exact hs), fun σ1 z1 _ _ => PostR.nxt s1 z1 p1⟩
      · exact p1.elim
    · exact p1.elim
theorem d_expr (G : Good Γ J X lv) {n : Nat} {e : Expr} {pos : Pos} : PS X (.Expr e pos) (DenS J fun ρ S => if isComp e then .fail else (ev Γ n e ρ S).bind fun _ S1 => .ok (.next ρ) S1) := by
  refine ps_by fun W ρ σ D sm er q => ?_
  split at q
  · exact q.elim
  · rename_i hc
    refine ⟨_, ps_expr ((sound n Γ J X G).1 e) (sw_plain (by simpa using hc)), ?_⟩
    exact den_bind sm er q fun W1 d y e1 s1 r1 v1 p1 => PostR.nxt s1 r1 p1
theorem d_ret (G : Good Γ J X lv) {n : Nat} {e : Expr} {pos : Pos} : PS X (.Return (some e) pos) (DenS J fun ρ S => (ev Γ n e ρ S).bind fun d S1 => .ok (.ret d) S1) :=
  ps_by fun W ρ σ D sm er q => ⟨_, ps_ret ((sound n Γ J X G).1 e), den_bind sm er q fun W1 d y e1 s1 r1 v1 p1 => PostR.rtn s1 v1 p1⟩
theorem d_retN {pos : Pos} : PS X (.Return none pos) (DenS J fun _ S => .ok (.ret .non) S) :=
  ps_by fun W ρ σ D sm er q => ⟨_, ps_retN, PostR.rtn sm (show Rep J.K W .non .non from rfl) q⟩
theorem d_if (G : Good Γ J X lv) {n : Nat} {b : List Stmt → EvS} (ihb : ∀ ss, PSs X ss (DenS J (b ss))) {c : Expr} {x y : List Stmt} {pos : Pos} : PS X (.If c x y pos) (DenS J fun ρ S => (evT Γ n c ρ S).bind fun t S1 => if t then b x ρ S1 else b y ρ S1) := by
  refine ps_by fun W ρ σ D sm er q => ⟨_, ps_if ((sound n Γ J X G).2 c) (ihb x) (ihb y), ?_⟩
  refine denT_bind sm er q fun W1 t e1 s1 r1 p1 => ?_
  cases t with
  | true => exact ⟨W1, ρ, rfl, s1, r1, p1⟩
  | false => exact ⟨W1, ρ, rfl, s1, r1, p1⟩
/-- the ends of a loop's turn -/
theorem for_parts {fi : EnvD → Store → Res (List D × Src)} {tg : D → EnvD → Option EnvD} {L : List Nat} {b : EvS} {W : Wd} {ρ : EnvD} {σ : L2.St} {D : Ends} (sm : Sim J.K J.ca W) (er : EnvR J.K W ρ σ)
    (q : PostR J W (RF J) ((fi ρ W.S).bind fun p S1 => forE tg b p.2 p.1 p.1 ρ S1) (QF D)) : tFor (DenI J fi) (DenG J tg L) (DenS J b) D σ W.H := by
  refine ⟨W, ρ, rfl, sm, er, q.bind.imp fun T H1 ⟨W1, pr, h1, h2, h3, h4, h5⟩ => ?_⟩
  subst h1
  obtain ⟨items, src⟩ := pr
  refine ⟨fun i m σ H => m = items.length - i ∧ i ≤ items.length ∧ ∃ W' ρ', W'.H = H ∧ Ext W1 W' ∧ Sim J.K J.ca W' ∧ EnvR J.K W' ρ' σ ∧ PostR J W' (RF J) (forE tg b src items (items.drop i) ρ' W'.S) (QF D),
    ⟨_, rfl, Nat.zero_le _, W1, ρ, rfl, Ext.refl _, h3, er.ext sm h2, h5⟩, ?_⟩
  rintro i m σ1 H ⟨hm, hi, W', ρ', hH, e', s', r', q⟩
  subst hH
  rcases Nat.lt_or_ge i items.length with hlt | hge
  · rw [List.drop_eq_getElem_cons hlt] at q
    unfold forE at q
    by_cases hc : chk src items W'.S
    · rw [ifc_pos hc] at q
      obtain ⟨g1, g2⟩ := (h4 W' e' s' hc i).1 _ (List.getElem?_eq_getElem hlt)
      refine .inr ⟨g1, fun σ2 H2 => ∃ W2 ρ2, W2.H = H2 ∧ Ext W1 W2 ∧ Sim J.K J.ca W2 ∧ EnvR J.K W2 ρ2 σ2 ∧ PostR J W2 (RF J) (forE tg b src items (items.drop (i + 1)) ρ2 W2.S) (QF D),
        fun σ2 H2 ⟨W2, ρ2, z1, z2, z3, z4, z5⟩ => ⟨_, by omega, rfl, hlt, W2, ρ2, z1, z2, z3, z4, z5⟩, fun x H' hy => ?_⟩
      obtain ⟨y1, y2⟩ := g2 x H' hy
      subst y1
      split at q
      · rename_i ρ1 hρ
        refine ⟨W', _, ρ', ρ1, rfl, s', y2, r', hρ, fun σ2 z1 _ _ => ?_⟩
        refine ⟨W', ρ1, rfl, s', z1, q.bind.imp fun fl H2 ⟨W2, f, w1, w2, w3, w4, w5⟩ => ?_⟩
        subst w1
        cases f with
        | next ρ2 =>
          cases fl with
          | next σ3 => exact ⟨W2, ρ2, rfl, e'.trans w2, w3, w4, w5⟩
          | _ => exact w4.elim
        | cont ρ2 =>
          cases fl with
          | cont σ3 => exact ⟨W2, ρ2, rfl, e'.trans w2, w3, w4, w5⟩
          | _ => exact w4.elim
        | brk ρ2 =>
          cases fl with
          | brk σ3 => exact PostR.nxt w3 w4 w5
          | _ => exact w4.elim
        | ret d =>
          cases fl with
          | ret v => exact PostR.rtn (D := D) w3 w4 w5
          | _ => exact w4.elim
      · exact q.elim
    · rw [ifc_neg hc] at q
      exact q.elim
  · have hie : items.drop i = [] := List.drop_eq_nil_of_le hge
    rw [hie] at q
    unfold forE at q
    by_cases hc : chk src items W'.S
    · rw [ifc_pos hc] at q
      exact .inl ⟨(h4 W' e' s' hc i).2 hge, PostR.nxt s' r' q⟩
    · rw [ifc_neg hc] at q
      exact q.elim
theorem d_for (G : Good Γ J X lv) (hh : Γ.hot = false) {n : Nat} {b : List Stmt → EvS} (ihb : ∀ ss, PSs X ss (DenS J (b ss))) {t iter : Expr} {body : List Stmt} {pos : Pos} :
    PS X (.For t iter body [] pos) (DenS J fun ρ S => (iterE Γ (ev Γ n) iter ρ S).bind fun p S1 => forE (tgE Γ t) (b body) p.2 p.1 p.1 ρ S1) :=
  ps_by fun W ρ σ D sm er q => ⟨_, ps_for G.own (G.calm hh) (d_iterE G (sound n Γ J X G).1) (d_tg G) (ihb body) (folded (iter_set q) _), for_parts sm er q⟩
theorem pih_by {tg e : Expr} {f : EnvD → Store → Res (List E.D × Src)} (h : ∀ W ρ σ R, Sim J.K J.ca W → EnvR J.K W ρ σ → PostR J W (RI J) (f ρ W.S) R → ∃ wi, L2H.PIH X tg e wi ∧ wi σ W.H R) : L2H.PIH X tg e (DenI J f) :=
  ⟨fun pins s σ H R I ⟨W, ρ, hH, sm, er, p⟩ => by subst hH; obtain ⟨t, ht, q⟩ := h W ρ σ R sm er p; exact ht.run pins s σ _ R I q⟩
theorem d_rngH (G : Good Γ J X lv) {r : Expr → Ev} (ih : ∀ e, PE X e (Den J (r e))) {tg a : Expr} {p pos : Pos} (hg : Gl X "range") (hm : X.mg "range" = none) : L2H.PIH X tg (.Call (.Name "range" p) [a] [] pos) (DenI J (rngE r [a])) := by
  refine pih_by fun W ρ σ R sm er q => ?_
  have q : PostR J W (RI J) (if isStar a then .fail else (r a ρ W.S).bind fun d S1 => match d with
    | .int n => if big62 n then .ok (rngD 0 n.toNat, .still) S1 else .fail
    | _ => .fail) R := q
  split at q
  · exact q.elim
  · rename_i hs
    have hs : isStar a = false := by simpa using hs
    refine ⟨_, L2H.pi_range1H hg hm (pa_cons (ih a) pa_nil (not_star hs)) (by rw [not_star hs]; rfl), ?_⟩
    refine den_bind sm er q fun W1 d v e1 s1 r1 v1 p1 => ?_
    split at p1
    · split at p1
      · rename_i n hn
        cases (show v = _ from v1)
        exact ⟨n, rfl, hn.1, hn.2, p1.val s1 ri_rng⟩
      · exact p1.elim
    · exact p1.elim
theorem d_forH (G : Good Γ J X lv) (hh : Γ.hot = true) {n : Nat} {b : List Stmt → EvS} (ihb : ∀ ss, PSs X ss (DenS J (b ss))) {t iter : Expr} {body : List Stmt} {pos : Pos} :
    PS X (.For t iter body [] pos) (DenS J (forHE Γ (ev Γ n) (b body) t iter)) := by
  unfold forHE
  split
  · refine ps_by fun W ρ σ D sm er q => ?_
    split at q
    · rename_i h
      simp only [Bool.and_eq_true, decide_eq_true_eq] at h
      obtain ⟨⟨h1, h2⟩, h3⟩ := h
      subst h3
      obtain ⟨g1, g2⟩ := isGl_at G h1
      exact ⟨_, L2H.ps_forH G.own (G.hotc hh).1 (d_rngH G (sound n Γ J X G).1 g1 (G.tab.bis _ h2)) (d_tg G) (ihb body) (fun x => rfl), for_parts sm er q⟩
    · exact q.elim
  · exact ps_fail
theorem d_while (G : Good Γ J X lv) {n k : Nat} {b : List Stmt → EvS} (ihb : ∀ ss, PSs X ss (DenS J (b ss))) {c : Expr} {body : List Stmt} {pos : Pos} :
    PS X (.While c body [] pos) (DenS J (whileE (evT Γ n c) (b body) k)) := by
  refine ps_by fun W ρ σ D sm er q => ⟨_, ps_while G.own ((sound n Γ J X G).2 c) (ihb body), ?_⟩
  refine ⟨fun m σ H => ∃ W' ρ', W'.H = H ∧ Sim J.K J.ca W' ∧ EnvR J.K W' ρ' σ ∧ PostR J W' (RF J) (whileE (evT Γ n c) (b body) m ρ' W'.S) (QF D), ⟨k, W, ρ, rfl, sm, er, q⟩, ?_⟩
  rintro m σ1 H ⟨W', ρ', hH, s', r', q⟩
  subst hH
  cases m with
  | zero => exact q.elim
  | succ m =>
    refine denT_bind s' r' q fun W1 t e1 s1 r1 p1 => ?_
    cases t with
    | false =>
      rw [if_neg Bool.false_ne_true]
      exact PostR.nxt s1 r1 p1
    | true =>
      rw [if_pos rfl]
      refine ⟨fun σ2 H2 => ∃ W2 ρ2, W2.H = H2 ∧ Sim J.K J.ca W2 ∧ EnvR J.K W2 ρ2 σ2 ∧ PostR J W2 (RF J) (whileE (evT Γ n c) (b body) m ρ2 W2.S) (QF D), fun σ2 H2 z => ⟨m, Nat.lt_succ_self _, z⟩, ?_⟩
      refine ⟨W1, ρ', rfl, s1, r1, (show PostR J W1 (RF J) ((b body ρ' W1.S).bind fun fl S2 => (match fl with
        | .next ρ2 => whileE (evT Γ n c) (b body) m ρ2 S2
        | .cont ρ2 => whileE (evT Γ n c) (b body) m ρ2 S2
        | .brk ρ2 => .ok (.next ρ2) S2
        | .ret d => .ok (.ret d) S2)) (QF D) from p1).bind.imp fun fl H2 ⟨W2, f, w1, w2, w3, w4, w5⟩ => ?_⟩
      subst w1
      cases f with
      | next ρ2 =>
        cases fl with
        | next σ3 => exact ⟨W2, ρ2, rfl, w3, w4, w5⟩
        | _ => exact w4.elim
      | cont ρ2 =>
        cases fl with
        | cont σ3 => exact ⟨W2, ρ2, rfl, w3, w4, w5⟩
        | _ => exact w4.elim
      | brk ρ2 =>
        cases fl with
        | brk σ3 => exact PostR.nxt w3 w4 w5
        | _ => exact w4.elim
      | ret d =>
        cases fl with
        | ret v => exact PostR.rtn (D := D) w3 w4 w5
        | _ => exact w4.elim
theorem RepF.zip {K : PySem.W.Frag} {W : Wd} : ∀ {fs : List Str} {ds : List D} {vs : List V}, Reps K W ds vs → RepF K W (fs.zip ds) (fs.zip vs)
  | [], _, _, _ => rfl
  | _ :: _, [], _, h => by cases (show _ = [] from h); rfl
  | f :: fs, d :: ds, _, ⟨v, r, h1, h2, h3⟩ => by subst h1; exact ⟨v, _, rfl, h2, RepF.zip h3⟩
theorem d_raise (G : Good Γ J X lv) (hh : Γ.hot = false) (EX : ExcOk Γ.T X.prog X.w X.K X.mg X.base J.ca lv) {n : Nat} {C : Str} {es : List Expr} {p p2 pos : Pos} : PS X (.Raise (some (.Call (.Name C p) es [] p2)) none pos) (DenS J (raiseE Γ (ev Γ n) C es)) := by
  refine ps_by fun W ρ σ D sm er q => ?_
  unfold raiseE at q
  split at q
  · rename_i hg
    obtain ⟨g1, _⟩ := isGl_at G hg
    split at q
    · rename_i fs hf
      obtain ⟨k1, k2⟩ := EX C fs hf
      have hs := evL_cases q
      have hne : es ≠ [] := fun e => by
        subst e
        have q : PostR J W (RF J) (if ([] : List E.D).length = fs.length then .exc C (fs.zip []) W.S else .fail) (QF D) := q
        cases fs with
        | nil => exact k1 rfl
        | cons a b => rw [if_neg (by simp)] at q; exact q
      refine ⟨_, L2N.ps_raise (G.calm hh) G.takes (k2 X es _ p p2 rfl rfl rfl rfl rfl (G.calm hh) (G.room hh) g1 (pa_evL (sound n Γ J X G).1 hs) hs hne), ?_⟩
      refine denL_bind sm er q fun W1 ds vs e1 s1 r1 v1 p1 => ?_
      split at p1
      · rename_i hl
        refine ⟨by rw [v1.length]; exact hl, fun d hd => ?_⟩
        have hsm : Same W1.H (upd W1.H d (.xd (fs.zip vs))) := same_upd hd
        exact p1 (W1.heap (upd W1.H d (.xd (fs.zip vs)))) d (fs.zip vs) rfl (Ext.heap hsm) (s1.heap hsm) upd_same (RepF.zip (v1.mono s1 (Ext.heap hsm)))
      · exact p1.elim
    · exact q.elim
  · exact q.elim
/-- the one statement of a try's body, about its call e -/
structure TS1 (X : Cx) (Γ : Gm) (n : Nat) (s : Stmt) (e : Expr) (kv : V → Ends → L2.St → Hp → Prop) (fin : E.D → EnvD → Fl) : Prop where
  ps : ∀ pn xe te, PE (X.tr pn xe) e te → PSs (X.tr pn xe) [s] (fun D σ H => te σ H fun v H1 => kv v D σ H1)
  rf : ∀ (J : Jd) (W : Wd) (d : E.D) (v : V) (ρ : EnvD) (σ : L2.St) (D : Ends), Sim J.K J.ca W → EnvR J.K W ρ σ → Rep J.K W d v → PostR J W (RF J) (.ok (fin d ρ) W.S) (QF D) → kv v D σ W.H
  ts : ∀ ρ S, tsE Γ n s ρ S = (tcE Γ n e ρ S).bind fun d S1 => .ok (fin d ρ) S1
theorem tc_call {n : Nat} {e : Expr} {ρ : EnvD} {S : Store} (h : tcE Γ n e ρ S ≠ .fail) : ∃ f p e1 es pos sem, e = .Call (.Name f p) (e1 :: es) [] pos ∧ Γ.isGl f = true ∧ Γ.T.call f = some sem ∧ tcE Γ n e ρ S = (evL (ev Γ n) (e1 :: es) ρ S).nox.bind sem := by
  unfold tcE at h ⊢
  split at h
  · rename_i f p e1 es pos
    split at h
    · rename_i hg
      split at h
      · rename_i sem hs
        exact ⟨f, p, e1, es, pos, sem, rfl, hg, hs, if_pos hg⟩
      · exact absurd rfl h
    · exact absurd rfl h
  · exact absurd rfl h
theorem ts_one (G : Good Γ J X lv) {n : Nat} {s : Stmt} {ρ : EnvD} {S : Store} (h : tsE Γ n s ρ S ≠ .fail) : ∃ e kv fin, TS1 X Γ n s e kv fin ∧ tcE Γ n e ρ S ≠ .fail := by
  have nb : ∀ {r : Res E.D} {k : E.D → Store → Res Fl}, r.bind k ≠ .fail → r ≠ .fail := fun {r k} h e => h (by rw [e]; rfl)
  unfold tsE at h
  split at h
  · rename_i x p e pos
    cases hi : Γ.setI x with
    | none => rw [hi] at h; exact absurd rfl h
    | some i =>
      rw [hi] at h
      have hc := nb h
      obtain ⟨f, p1, e1, es, p2, sem, he, _⟩ := tc_call hc
      obtain ⟨g1, g2, g3, g4⟩ := setI_at G hi
      subst he
      refine ⟨_, fun v D σ H => D.nx (σ.set i (some v)) H, fun d ρ => Fl.next (ρ.set i (some d)), ⟨fun pn xe te ht => pss_one (ps_set (X := X.tr pn xe) G.nd g2 g3 ht rfl g4), fun J W d v ρ σ D sm er r q => ?_, fun ρ S => ?_⟩, hc⟩
      · exact PostR.nxt sm (er.set r) q
      · show (match Γ.setI x with
          | some i => (tcE Γ n _ ρ S).bind fun d S1 => Res.ok (Fl.next (ρ.set i (some d))) S1
          | none => Res.fail) = _
        rw [hi]
  · rename_i e pos
    have hc := nb h
    exact ⟨e, fun v D σ H => D.rt v H, fun d ρ => Fl.ret d, ⟨fun pn xe te ht => pss_one (ps_ret ht), fun J W d v ρ σ D sm er r q => PostR.rtn sm r q, fun ρ S => rfl⟩, hc⟩
  · rename_i e pos
    have hc := nb h
    obtain ⟨f, p1, e1, es, p2, sem, he, _⟩ := tc_call hc
    subst he
    exact ⟨_, fun v D σ H => D.nx σ H, fun d ρ => Fl.next ρ, ⟨fun pn xe te ht => pss_one (ps_expr ht rfl), fun J W d v ρ σ D sm er r q => PostR.nxt sm er q, fun ρ S => rfl⟩, hc⟩
  · exact absurd rfl h
theorem Good.tr (G : Good Γ J X lv) {pn : List (Addr × Obj)} {xe : Value → Shared → Prop} (hh : Γ.hot = false) (ho : PassesOwn (model X.prog X.w) X.A X.env xe) : Good Γ J.quiet (X.tr pn xe) lv where
  K := G.K
  N := G.N
  nd := G.nd
  sc := G.sc
  kind := G.kind
  fn := G.fn
  calm := G.calm
  tab := G.tab
  room := G.room
  hotc := fun h => absurd h (by rw [hh]; decide)
  pass := passN
  own := ho
  takes := takesN
theorem post_nox {α β : Type} {R : Wd → α → β → Prop} {r : Res α} {W : Wd} {Q : β → Hp → Prop} {J' : Jd} (h : PostR J W R r.nox Q) (hK : J'.K = J.K) (hc : J'.ca = J.ca) : PostR J' W R r Q := by
  cases r with
  | ok a S => exact fun W' b h1 h2 h3 h4 => h W' b h1 h2 (by rw [← hK, ← hc]; exact h3) h4
  | exc c fs S => exact h.elim
  | fail => exact h
theorem EnvR.setN {K : PySem.W.Frag} {W : Wd} {ρ : EnvD} {σ : L2.St} {i : Nat} {o : Option V} (h : EnvR K W ρ σ) : EnvR K W (ρ.set i none) (σ.set i o) := by
  refine ⟨by rw [List.length_set, List.length_set]; exact h.1, fun j e q => ?_⟩
  by_cases c : j = i
  · subst c
    by_cases hl : j < ρ.length
    · rw [List.getElem?_set_self hl] at q; cases q
    · rw [List.getElem?_eq_none (by rw [List.length_set]; omega)] at q; cases q
  · rw [List.getElem?_set_ne (Ne.symm c)] at q ⊢
    exact h.2 j e q
theorem d_try (G : Good Γ J X lv) (hst : X.stack = X.env :: X.outer) (hfr : X.env.frame = some X.env.locals) {n : Nat} {s : Stmt} {C x : Str} {suite : List Stmt} {np hp pos : Pos} :
    PS X (.Try [s] [.ExceptHandler (some (.Name C np)) (some x) suite hp] [] [] pos) (DenS J (tryE Γ n s C x suite)) := by
  refine ps_by fun W ρ σ D sm er q => ?_
  unfold tryE at q
  split at q
  · exact q.elim
  · rename_i hg
    simp only [Bool.or_eq_true, not_or, Bool.not_eq_true, Bool.not_eq_false'] at hg
    obtain ⟨⟨⟨hh, hgC⟩, hne⟩, hcl⟩ := hg
    have hcls := G.tab.exk C hcl
    split at q
    · rename_i i hi
      split at q
      · rename_i hl
        obtain ⟨g1, g2, g3, g4⟩ := setI_at G hi
        obtain ⟨gC, gC2⟩ := isGl_at G hgC
        obtain ⟨n1, n2, n3⟩ := okName_at gC2
        cases suite with
        | nil => cases hne
        | cons b0 suite =>
        have hts : tsE Γ n s ρ W.S ≠ .fail := fun e => by rw [e] at q; exact q
        obtain ⟨e, kv, fin, T1, hc⟩ := ts_one G hts
        obtain ⟨f, p1, e1, es, p2, sem, he, hf1, hf2, hv⟩ := tc_call hc
        obtain ⟨gf, gf2⟩ := isGl_at G hf1
        obtain ⟨m1, m2, m3⟩ := okName_at gf2
        obtain ⟨af, fd, ps, k1, k2, k3, k4⟩ := G.tab.call f sem hf2
        rw [T1.ts, hv] at q
        have hkd : X.env.kindOf x = some .local := by rw [kd_eq G]; exact hl
        have hno : noStar (e1 :: es) = true := by
          cases hz : noStar (e1 :: es) with
          | true => rfl
          | false =>
            exfalso
            apply hc
            rw [hv]
            unfold evL
            rw [hz]
            rfl
        obtain ⟨z1, z2⟩ := noStar_cons hno
        subst he
        · skip
          refine ⟨_, L2N.ps_try_as (i := i) (c := .ref (J.ca C)) (Wout := fun cls d _ H => J.E cls d H)
            (tb := fun Wx D σ H => tCallS (spD X.K J.ca sem) (L2.WE Wx) (DenL J.quiet (evL (ev Γ n) (e1 :: es))) σ H fun v H1 => kv v D σ H1)
            (ts := fun a cls d D σ H => ∃ C' fs dx, cls = .ref (J.ca C') ∧ d = some dx ∧ (i < σ.length → DenPS J.quiet i a dx fs (hxR (hxs Γ.hoty n ⟨x, C', fs⟩ i n).1 (hxs Γ.hoty n ⟨x, C', fs⟩ i n).2 n (b0 :: suite)) D σ H))
            hst hfr G.nd g2 hkd ⟨gC, n1, .inl hcls⟩ G.takes (fun Wx pn xe tk ho => ?_) (fun a oe cls d pn hz hfs => ?_), ?_⟩
          · exact T1.ps pn xe _ (pe_callS k4 (G.room hh) gf k1 k2 k3 (fun σ => L2N.passAt tk σ) (pa_evL (sound n Γ J.quiet (X.tr pn xe) (G.tr hh ho)).1 hno) m1 (not_star z1) (star_none z2))
          · refine ⟨fun pins s σ H D I ⟨C', fs, dx, e1, e2, z⟩ => ?_⟩
            subst e1; subst e2
            have G' := G.suite hh (a := a) (pn := pn) hz hfs
            have xs := x_sound (n := n) (i := i) (dd := dx) (fs := fs) (C := C') (x := x) G' hz.zc hfs n
            exact (x_suite xs.1 xs.2 n (b0 :: suite)).run pins s σ H D I (z (by rw [I.len]; exact (List.getElem?_eq_some_iff.mp g2).1))
          · -- the reading
            show DenL J.quiet (evL (ev Γ n) (e1 :: es)) σ W.H fun vs H1 => _
            have hq := q
            cases hr : (evL (ev Γ n) (e1 :: es) ρ W.S) with
            | fail => rw [hr] at q; exact q.elim
            | exc c fs S1 => rw [hr] at q; exact q.elim
            | ok ds S1 =>
              rw [hr] at q
              refine ⟨W, ρ, rfl, sm, er, ?_⟩
              rw [hr]
              intro W1 vs h1 h2 h3 h4
              subst h1
              have q := q
              refine ⟨W1, ds, rfl, by rw [← G.K]; exact h3, by rw [← G.K]; exact h4, ?_⟩
              have q : PostR J W (RF J) (match (sem ds W1.S).bind fun d S1 => .ok (fin d ρ) S1 with
                | .exc C' fs S1 => (match Γ.T.exm C' C with
                  | some true => ((hxR (hxs Γ.hoty n ⟨x, C', fs⟩ i n).1 (hxs Γ.hoty n ⟨x, C', fs⟩ i n).2 n (b0 :: suite) (ρ.set i none) S1).nox.bind fun d S2 => .ok (.ret d) S2)
                  | some false => .exc C' fs S1
                  | none => .fail)
                | r => r) (QF D) := q
              cases hs : sem ds W1.S with
              | fail => rw [hs] at q; exact q.elim
              | ok d S2 =>
                rw [hs] at q
                intro W2 v y1 y2 y3 y4
                subst y1
                refine T1.rf J W2 d v ρ σ D (by rw [G.K]; exact y3) (er.ext sm (h2.trans y2)) (by rw [G.K]; exact y4) ?_
                exact PostR.ext (h2.trans y2) q
              | exc C' fs S2 =>
                rw [hs] at q
                intro W2 dx fv y1 y2 y3 y4 y5
                subst y1
                have y3 : Sim J.K J.ca W2 := by rw [G.K]; exact y3
                have y5 : RepF J.K W2 fs fv := by rw [G.K]; exact y5
                have q : PostR J W (RF J) (match Γ.T.exm C' C with
                  | some true => ((hxR (hxs Γ.hoty n ⟨x, C', fs⟩ i n).1 (hxs Γ.hoty n ⟨x, C', fs⟩ i n).2 n (b0 :: suite) (ρ.set i none) W2.S).nox.bind fun d S2 => .ok (.ret d) S2)
                  | some false => .exc C' fs W2.S
                  | none => .fail) (QF D) := q
                cases hm : Γ.T.exm C' C with
                | none => rw [hm] at q; exact q.elim
                | some b =>
                  rw [hm] at q
                  refine ⟨b, G.tab.exm C' C b hm, fun hb a ha => ?_, fun hb => ?_⟩
                  · subst hb
                    refine ⟨C', fs, dx, rfl, rfl, fun hlt => ⟨W2, ρ.set i none, rfl, y3, ?_, ⟨?_, fv, y4, y5⟩, ?_⟩⟩
                    · exact (er.ext sm (h2.trans y2)).setN
                    · rw [List.length_set] at hlt
                      exact List.getElem?_set_self hlt
                    · have q := PostR.ext (h2.trans y2) q
                      cases hx : (hxR (hxs Γ.hoty n ⟨x, C', fs⟩ i n).1 (hxs Γ.hoty n ⟨x, C', fs⟩ i n).2 n (b0 :: suite) (ρ.set i none) W2.S) with
                      | fail => rw [hx] at q; exact q.elim
                      | exc c2 fs2 S3 => rw [hx] at q; exact q.elim
                      | ok d3 S3 =>
                        rw [hx] at q
                        intro W3 v3 w1 w2 w3 w4
                        exact q W3 (.ret v3) w1 w2 w3 w4
                  · subst hb
                    exact q W2 dx fv rfl (h2.trans y2) y3 y4 y5
      · exact q.elim
    · exact q.elim
theorem sound_stmt (G : Good Γ J X lv) (hst : X.stack = X.env :: X.outer) (hfr : X.env.frame = some X.env.locals) (EX : ExcOk Γ.T X.prog X.w X.K X.mg X.base J.ca lv) {n : Nat} {b : List Stmt → EvS} (ihb : ∀ ss, PSs X ss (DenS J (b ss))) (s : Stmt) : PS X s (DenS J (stepS Γ n b s)) := by
  unfold stepS
  split
  · rename_i t v pos
    cases t with
    | Name x p => exact d_set G
    | Attribute o f p => exact d_setA G
    | Subscript o i p => exact d_setI G
    | Tuple ts k p => exact d_setT G
    | _ => exact ps_fail
  · exact d_expr G
  · exact d_ret G
  · exact d_retN
  · exact d_if G ihb
  · split
    · rename_i hh
      exact d_forH G hh ihb
    · rename_i hh
      exact d_for G (by simpa using hh) ihb
  · exact d_while G ihb
  · split
    · exact ps_fail
    · rename_i hh
      exact d_raise G (by simpa using hh) EX
  · exact d_try G hst hfr
  · exact ps_by fun W ρ σ D sm er q => ⟨_, ps_pass, PostR.nxt sm er q⟩
  · exact ps_by fun W ρ σ D sm er q => ⟨_, ps_break, PostR.val (R := RF J) (a := .brk ρ) (b := .brk σ) (Q := QF D) sm er q⟩
  · exact ps_by fun W ρ σ D sm er q => ⟨_, ps_continue, PostR.val (R := RF J) (a := .cont ρ) (b := .cont σ) (Q := QF D) sm er q⟩
  · exact ps_fail
theorem sound_block {f : Stmt → EvS} (h : ∀ s, PS X s (DenS J (f s))) : ∀ ss, PSs X ss (DenS J (blockE f ss))
  | [] => pss_by fun W ρ σ D sm er q => ⟨_, pss_nil, PostR.nxt sm er q⟩
  | s :: ss => by
    refine pss_by fun W ρ σ D sm er q => ⟨_, pss_cons (h s) (sound_block h ss), ?_⟩
    refine ⟨W, ρ, rfl, sm, er, (show PostR J W (RF J) ((f s ρ W.S).bind fun fl S1 => match fl with
      | .next ρ1 => blockE f ss ρ1 S1
      | fl => .ok fl S1) (QF D) from q).bind.imp fun fl H2 ⟨W2, g, w1, w2, w3, w4, w5⟩ => ?_⟩
    subst w1
    cases g with
    | next ρ2 =>
      cases fl with
      | next σ3 => exact ⟨W2, ρ2, rfl, w3, w4, w5⟩
      | _ => exact w4.elim
    | cont ρ2 =>
      cases fl with
      | cont σ3 => exact PostR.val (R := RF J) (a := .cont ρ2) (b := .cont σ3) (Q := QF D) w3 w4 w5
      | _ => exact w4.elim
    | brk ρ2 =>
      cases fl with
      | brk σ3 => exact PostR.val (R := RF J) (a := .brk ρ2) (b := .brk σ3) (Q := QF D) w3 w4 w5
      | _ => exact w4.elim
    | ret d =>
      cases fl with
      | ret v => exact PostR.rtn (D := D) w3 w4 w5
      | _ => exact w4.elim
theorem sound_body (G : Good Γ J X lv) (hst : X.stack = X.env :: X.outer) (hfr : X.env.frame = some X.env.locals) (EX : ExcOk Γ.T X.prog X.w X.K X.mg X.base J.ca lv) : ∀ (n : Nat) ss, PSs X ss (DenS J (exB Γ n ss))
  | 0 => fun ss => pss_by fun _ _ _ _ _ _ p => p.elim
  | n + 1 => sound_block fun s => sound_stmt G hst hfr EX (fun ss => sound_body G hst hfr EX n ss) s
end
end E

set_option linter.all false
set_option maxRecDepth 100000
set_option maxHeartbeats 4000000
/- Evaluator E, part K: what leaves a def; a def's promise. -/
namespace E
open PySem PySem.Spec PyProof.Rows L2
mutual
/-- all cells in d lie below b -/
def clD (b : Nat) : D → Bool
  | .ref n => decide (n < b)
  | .tup ds => clDs b ds
  | .lst ds => clDs b ds
  | .non => true
  | .bl _ => true
  | .int _ => true
  | .str _ => true
  | .scr _ => true
def clDs (b : Nat) : List D → Bool
  | [] => true
  | d :: ds => clD b d && clDs b ds
end
def clF (b : Nat) : List (Str × D) → Bool
  | [] => true
  | (_, d) :: fs => clD b d && clF b fs
def clC (b : Nat) : Cell → Bool
  | .lst ds => clDs b ds
  | .ins _ fs => clF b fs
mutual
/-- the cells by g, the rest as it is -/
def frW (g : Nat → Option D) : D → Option D
  | .ref n => g n
  | .tup ds => (frWs g ds).map .tup
  | .lst ds => (frWs g ds).map .lst
  | .non => some .non
  | .bl x => some (.bl x)
  | .int x => some (.int x)
  | .str x => some (.str x)
  | .scr x => some (.scr x)
def frWs (g : Nat → Option D) : List D → Option (List D)
  | [] => some []
  | d :: ds => (frW g d).bind fun d1 => (frWs g ds).map fun r => d1 :: r
end
def frF (g : Nat → Option D) : List (Str × D) → Option (List (Str × D))
  | [] => some []
  | (x, d) :: fs => (frW g d).bind fun d1 => (frF g fs).map fun r => (x, d1) :: r
/-- a list above b is frozen; ban: the one that stays -/
def frC (S1 : Store) (b ban : Nat) : Nat → Nat → Option D
  | 0, n => if n < b then some (.ref n) else none
  | k + 1, n => if n < b then some (.ref n) else if n = ban then none else (match cellL S1 n with
    | some ds => (frWs (frC S1 b ban k) ds).map .lst
    | none => none)
mutual
theorem frW_id {g : Nat → Option D} {b : Nat} (hg : ∀ n, n < b → g n = some (.ref n)) : ∀ {d : D}, clD b d = true → frW g d = some d
  | .ref n, h => hg n (by unfold clD at h; simpa using h)
  | .tup ds, h => by unfold clD at h; unfold frW; rw [frWs_id hg h]; rfl
  | .lst ds, h => by unfold clD at h; unfold frW; rw [frWs_id hg h]; rfl
  | .non, _ => rfl
  | .bl _, _ => rfl
  | .int _, _ => rfl
  | .str _, _ => rfl
  | .scr _, _ => rfl
theorem frWs_id {g : Nat → Option D} {b : Nat} (hg : ∀ n, n < b → g n = some (.ref n)) : ∀ {ds : List D}, clDs b ds = true → frWs g ds = some ds
  | [], _ => rfl
  | d :: ds, h => by
    unfold clDs at h
    rw [Bool.and_eq_true] at h
    unfold frWs
    rw [frW_id hg h.1, frWs_id hg h.2]; rfl
end
theorem frC_low {S1 : Store} {b ban k n : Nat} (h : n < b) : frC S1 b ban k n = some (.ref n) := by
  cases k <;> (unfold frC; rw [if_pos h])
/-- the old cells are as they were, or hold nothing that is new -/
def Kept (S S1 : Store) : Prop := S.length ≤ S1.length ∧ ∀ n, n < S.length → S1[n]? = S[n]? ∨ ∀ c, S1[n]? = some (some c) → clC S.length c = true
def outD (S S1 : Store) : D → Res D
  | .ref n => if n < S.length then .ok (.ref n) (S1.take S.length) else (match cellL S1 n with
    | some ds => (match frWs (frC S1 S.length n 6) ds with
      | some ds' => .ok (.ref S.length) (S1.take S.length ++ [some (.lst ds')])
      | none => .fail)
    | none => .fail)
  | d => (match frW (frC S1 S.length S1.length 6) d with
    | some d' => .ok d' (S1.take S.length)
    | none => .fail)
/-- what a def gives, its own cells dropped -/
noncomputable def cutR (S : Store) (r : Res Fl) : Res D := match r with
  | .ok fl S1 => ifc (Kept S S1) (match fl with
    | .ret d => outD S S1 d
    | .next _ => .ok .non (S1.take S.length)
    | _ => .fail) .fail
  | .exc c fs S1 => ifc (Kept S S1) (match frF (frC S1 S.length S1.length 6) fs with
    | some fs' => .exc c fs' (S1.take S.length)
    | none => .fail) .fail
  | .fail => .fail
/-- .. its cells kept -/
def rawR (r : Res Fl) : Res D := match r with
  | .ok (.ret d) S1 => .ok d S1
  | .ok (.next _) S1 => .ok .non S1
  | .ok _ _ => .fail
  | .exc c fs S1 => .exc c fs S1
  | .fail => .fail
section
variable {K : PySem.W.Frag} {ca : Str → Addr} {W W' W2 : Wd} {b : Nat}
/-- from W' to a world W2 that knows less cells -/
structure Less (b : Nat) (W' W2 : Wd) : Prop where
  H : W2.H = W'.H
  live : ∀ a, Live W2 a → Live W' a
  len : b ≤ W2.S.length
  phi : ∀ n, n < b → W2.φ n = W'.φ n
mutual
theorem Rep.less (L : Less b W' W2) : ∀ {d : D} {v : V}, clD b d = true → Rep K W' d v → Rep K W2 d v
  | .non, _, _, h => h
  | .bl _, _, _, h => h
  | .int _, _, _, h => h
  | .str _, _, _, h => h
  | .tup _, _, c, ⟨a, vs, h1, h2, h3⟩ => ⟨a, vs, h1, by rw [L.H]; exact h2, Reps.less L (by unfold clD at c; exact c) h3⟩
  | .lst _, _, c, ⟨a, vs, h1, h2, h3, h4⟩ => ⟨a, vs, h1, by rw [L.H]; exact h2, fun l => h3 (L.live _ l), Reps.less L (by unfold clD at c; exact c) h4⟩
  | .scr _, _, _, ⟨a, h1, h2⟩ => ⟨a, h1, h2.imp (fun ⟨q, nl⟩ => ⟨by rw [L.H]; exact q, fun l => nl (L.live _ l)⟩) id⟩
  | .ref n, _, c, ⟨a, h1, h2, h3⟩ => by
    have c : n < b := by unfold clD at c; simpa using c
    exact ⟨a, h1, Nat.lt_of_lt_of_le c L.len, (L.phi n c).trans h3⟩
theorem Reps.less (L : Less b W' W2) : ∀ {ds : List D} {vs : List V}, clDs b ds = true → Reps K W' ds vs → Reps K W2 ds vs
  | [], _, _, h => h
  | _ :: _, _, c, ⟨v, r, h1, h2, h3⟩ => by
    unfold clDs at c
    rw [Bool.and_eq_true] at c
    exact ⟨v, r, h1, Rep.less L c.1 h2, Reps.less L c.2 h3⟩
end
theorem RepF.less (L : Less b W' W2) : ∀ {fs : List (Str × D)} {vs : List (Str × V)}, clF b fs = true → RepF K W' fs vs → RepF K W2 fs vs
  | [], _, _, h => h
  | (x, d) :: _, _, c, ⟨v, r, h1, h2, h3⟩ => by
    unfold clF at c
    rw [Bool.and_eq_true] at c
    exact ⟨v, r, h1, Rep.less L c.1 h2, RepF.less L c.2 h3⟩
theorem CellAt.less (L : Less b W' W2) {a : Addr} {c : Cell} (hc : clC b c = true) (h : CellAt K ca W' a c) : CellAt K ca W2 a c := by
  cases c with
  | lst ds => obtain ⟨vs, h1, h2⟩ := h; exact ⟨vs, by rw [L.H]; exact h1, h2.less L hc⟩
  | ins C fs => obtain ⟨dx, fv, h1, h2⟩ := h; exact ⟨dx, fv, by rw [L.H]; exact h1, h2.less L hc⟩
mutual
theorem Rep.cl : ∀ {d : D} {v : V}, Rep K W d v → clD W.S.length d = true
  | .non, _, _ => rfl
  | .bl _, _, _ => rfl
  | .int _, _, _ => rfl
  | .str _, _, _ => rfl
  | .scr _, _, _ => rfl
  | .tup _, _, ⟨a, vs, h1, h2, h3⟩ => by unfold clD; exact Reps.cl h3
  | .lst _, _, ⟨a, vs, h1, h2, h3, h4⟩ => by unfold clD; exact Reps.cl h4
  | .ref n, _, ⟨a, h1, h2, h3⟩ => by unfold clD; simpa using h2
theorem Reps.cl : ∀ {ds : List D} {vs : List V}, Reps K W ds vs → clDs W.S.length ds = true
  | [], _, _ => rfl
  | _ :: _, _, ⟨v, r, h1, h2, h3⟩ => by unfold clDs; rw [Rep.cl h2, Reps.cl h3]; rfl
end
theorem RepF.cl : ∀ {fs : List (Str × D)} {vs : List (Str × V)}, RepF K W fs vs → clF W.S.length fs = true
  | [], _, _ => rfl
  | (x, d) :: _, _, ⟨v, r, h1, h2, h3⟩ => by unfold clF; rw [Rep.cl h2, RepF.cl h3]; rfl
theorem CellAt.cl {a : Addr} {c : Cell} (h : CellAt K ca W a c) : clC W.S.length c = true := by
  cases c with
  | lst ds => obtain ⟨vs, h1, h2⟩ := h; exact h2.cl
  | ins C fs => obtain ⟨dx, fv, h1, h2⟩ := h; exact h2.cl
/-- frozen as g says -/
def GOk (K : PySem.W.Frag) (W' W2 : Wd) (g : Nat → Option D) : Prop := ∀ n d v, g n = some d → Rep K W' (.ref n) v → Rep K W2 d v
mutual
theorem Rep.frW (L : Less b W' W2) {g : Nat → Option D} (hg : GOk K W' W2 g) : ∀ {d d' : D} {v : V}, frW g d = some d' → Rep K W' d v → Rep K W2 d' v
  | .non, d', v, e, h => by cases e; exact h
  | .bl _, d', v, e, h => by cases e; exact h
  | .int _, d', v, e, h => by cases e; exact h
  | .str _, d', v, e, h => by cases e; exact h
  | .scr ns, d', v, e, h => by cases e; exact Rep.less L (d := .scr ns) rfl h
  | .tup ds, d', v, e, ⟨a, vs, h1, h2, h3⟩ => by
    obtain ⟨ds', e1, e2⟩ := Option.map_eq_some_iff.mp (show (frWs g ds).map .tup = some d' from e)
    subst e2
    exact ⟨a, vs, h1, by rw [L.H]; exact h2, Reps.frW L hg e1 h3⟩
  | .lst ds, d', v, e, ⟨a, vs, h1, h2, h3, h4⟩ => by
    obtain ⟨ds', e1, e2⟩ := Option.map_eq_some_iff.mp (show (frWs g ds).map .lst = some d' from e)
    subst e2
    exact ⟨a, vs, h1, by rw [L.H]; exact h2, fun l => h3 (L.live _ l), Reps.frW L hg e1 h4⟩
  | .ref n, d', v, e, h => hg n d' v e h
theorem Reps.frW (L : Less b W' W2) {g : Nat → Option D} (hg : GOk K W' W2 g) : ∀ {ds ds' : List D} {vs : List V}, frWs g ds = some ds' → Reps K W' ds vs → Reps K W2 ds' vs
  | [], ds', vs, e, h => by cases e; exact h
  | d :: ds, ds', vs, e, ⟨v, r, h1, h2, h3⟩ => by
    obtain ⟨d1, e1, e2⟩ := Option.bind_eq_some_iff.mp (show ((E.frW g d).bind fun d1 => (frWs g ds).map fun r => d1 :: r) = some ds' from e)
    obtain ⟨r1, e3, e4⟩ := Option.map_eq_some_iff.mp e2
    subst e4
    exact ⟨v, r, h1, Rep.frW L hg e1 h2, Reps.frW L hg e3 h3⟩
end
theorem RepF.frF (L : Less b W' W2) {g : Nat → Option D} (hg : GOk K W' W2 g) : ∀ {fs fs' : List (Str × D)} {vs : List (Str × V)}, frF g fs = some fs' → RepF K W' fs vs → RepF K W2 fs' vs
  | [], fs', vs, e, h => by cases e; exact h
  | (x, d) :: fs, fs', vs, e, ⟨v, r, h1, h2, h3⟩ => by
    obtain ⟨d1, e1, e2⟩ := Option.bind_eq_some_iff.mp (show ((E.frW g d).bind fun d1 => (E.frF g fs).map fun r => (x, d1) :: r) = some fs' from e)
    obtain ⟨r1, e3, e4⟩ := Option.map_eq_some_iff.mp e2
    subst e4
    exact ⟨v, r, h1, Rep.frW L hg e1 h2, RepF.frF L hg e3 h3⟩
theorem frC_ok (s' : Sim K ca W') {ban : Nat} (L : Less b W' W2) (hl : ∀ a, Live W2 a → ∃ n c, (n < b ∨ n = ban) ∧ W'.S[n]? = some (some c) ∧ W'.φ n = some a) : ∀ k, GOk K W' W2 (frC W'.S b ban k)
  | 0, n, d, v, e, h => by
    unfold frC at e
    split at e
    · rename_i c
      cases e
      exact Rep.less L (by unfold clD; simpa using c) h
    · cases e
  | k + 1, n, d, v, e, h => by
    unfold frC at e
    split at e
    · rename_i c
      cases e
      exact Rep.less L (by unfold clD; simpa using c) h
    · rename_i c
      split at e
      · cases e
      · rename_i c2
        split at e
        · rename_i ds hd
          obtain ⟨ds', e1, e2⟩ := Option.map_eq_some_iff.mp e
          subst e2
          have c0 : W'.S[n]? = some (some (.lst ds)) := by
            unfold cellL at hd
            split at hd
            · cases hd; assumption
            · cases hd
          obtain ⟨a, vs, h1, h2, h3, h4⟩ := s'.lst_at c0 h
          refine ⟨a, vs, h1, by rw [L.H]; exact h3, fun l => ?_, Reps.frW L (frC_ok s' L hl k) e1 h4⟩
          obtain ⟨m, c', q1, q2, q3⟩ := hl a l
          have := s'.inj m n c' _ a q2 c0 q3 h2
          subst this
          rcases q1 with q1 | q1
          · exact c q1
          · exact c2 q1
        · cases e
/-- the world behind a def, its cells dropped -/
def Wd.cut (W' : Wd) (b : Nat) : Wd := ⟨W'.φ, W'.S.take b, W'.H⟩
theorem take_get {S : Store} {b n : Nat} {c : Cell} (h : (S.take b)[n]? = some (some c)) : n < b ∧ S[n]? = some (some c) := by
  rw [List.getElem?_take] at h
  split at h
  · exact ⟨by assumption, h⟩
  · cases h
theorem Live.cut {a : Addr} (h : Live (W'.cut b) a) : ∃ n c, (n < b) ∧ W'.S[n]? = some (some c) ∧ W'.φ n = some a := by
  obtain ⟨n, c, h1, h2⟩ := h
  obtain ⟨h3, h4⟩ := take_get h1
  exact ⟨n, c, h3, h4, h2⟩
theorem Less.cut (h : b ≤ W'.S.length) : Less b W' (W'.cut b) where
  H := rfl
  live a l := by obtain ⟨n, c, _, h2, h3⟩ := l.cut; exact ⟨n, c, h2, h3⟩
  len := by show b ≤ (W'.S.take b).length; rw [List.length_take]; omega
  phi _ _ := rfl
theorem kept_cl (sm : Sim K ca W) (kp : Kept W.S W'.S) {n : Nat} {c : Cell} (hn : n < W.S.length) (h : W'.S[n]? = some (some c)) : clC W.S.length c = true := by
  rcases kp.2 n hn with q | q
  · rw [q] at h
    obtain ⟨a, _, h2⟩ := sm.at_ n c h
    exact h2.cl
  · exact q c h
theorem cut_ok (sm : Sim K ca W) (kp : Kept W.S W'.S) (e : Ext W W') (s' : Sim K ca W') : Ext W (W'.cut W.S.length) ∧ Sim K ca (W'.cut W.S.length) := by
  have L := Less.cut (W' := W') (b := W.S.length) kp.1
  refine ⟨⟨L.len, fun n h => e.phi n h, fun a o h nl => ⟨(e.keep a o h nl).1, fun l => (e.keep a o h nl).2 (L.live a l)⟩⟩, fun n c h => ?_, fun n m c c' a h1 h2 h3 h4 => ?_⟩
  · obtain ⟨h1, h2⟩ := take_get h
    obtain ⟨a, h3, h4⟩ := s'.at_ n c h2
    exact ⟨a, h3, h4.less L (kept_cl sm kp h1 h2)⟩
  · exact s'.inj n m c c' a (take_get h1).2 (take_get h2).2 h3 h4
/-- .. and one list kept: it stands at the end -/
def Wd.cut1 (W' : Wd) (b : Nat) (a : Addr) (ds : List D) : Wd := ⟨fun m => if m = b then some a else W'.φ m, W'.S.take b ++ [some (.lst ds)], W'.H⟩
theorem cut1_get {S : Store} {ds : List D} {n : Nat} {c : Cell} (hb : b ≤ S.length) (h : (S.take b ++ [some (.lst ds)])[n]? = some (some c)) : (n < b ∧ S[n]? = some (some c)) ∨ (n = b ∧ c = .lst ds) := by
  have hl : (S.take b).length = b := by rw [List.length_take]; omega
  by_cases q : n < b
  · rw [List.getElem?_append_left (by rw [hl]; exact q)] at h
    exact .inl (take_get h)
  · rw [List.getElem?_append_right (by rw [hl]; omega), hl] at h
    by_cases q2 : n = b
    · subst q2
      rw [Nat.sub_self] at h
      cases h
      exact .inr ⟨rfl, rfl⟩
    · rw [List.getElem?_eq_none (by simp; omega)] at h
      cases h
theorem cut1_ok (sm : Sim K ca W) (kp : Kept W.S W'.S) (e : Ext W W') (s' : Sim K ca W') {n k : Nat} {a : Addr} {ds ds' : List D} (hn : ¬ n < W.S.length) (hc : W'.S[n]? = some (some (.lst ds))) (hf : W'.φ n = some a)
    (fr : frWs (frC W'.S W.S.length n k) ds = some ds') : Ext W (W'.cut1 W.S.length a ds') ∧ Sim K ca (W'.cut1 W.S.length a ds') := by
  have live : ∀ x, Live (W'.cut1 W.S.length a ds') x → ∃ m c, (m < W.S.length ∨ m = n) ∧ W'.S[m]? = some (some c) ∧ W'.φ m = some x := fun x ⟨m, c, h1, h2⟩ => by
    rcases cut1_get kp.1 h1 with ⟨h3, h4⟩ | ⟨h3, h4⟩
    · have h2 : (if m = W.S.length then some a else W'.φ m) = some x := h2
      rw [if_neg (by omega)] at h2
      exact ⟨m, c, .inl h3, h4, h2⟩
    · have h2 : (if m = W.S.length then some a else W'.φ m) = some x := h2
      rw [if_pos h3] at h2
      cases h2
      exact ⟨n, _, .inr rfl, hc, hf⟩
  have L : Less W.S.length W' (W'.cut1 W.S.length a ds') := ⟨rfl, fun x l => by obtain ⟨m, c, _, h2, h3⟩ := live x l; exact ⟨m, c, h2, h3⟩,
    by show W.S.length ≤ (W'.S.take W.S.length ++ [some (Cell.lst ds')]).length; have := kp.1; rw [List.length_append, List.length_take]; simp; omega,
    fun m h => by show (if m = W.S.length then some a else W'.φ m) = _; rw [if_neg (by omega)]⟩
  refine ⟨⟨L.len, fun m h => (L.phi m h).trans (e.phi m h), fun x o h nl => ⟨(e.keep x o h nl).1, fun l => (e.keep x o h nl).2 (L.live x l)⟩⟩, fun m c h => ?_, fun m m' c c' x h1 h2 h3 h4 => ?_⟩
  · rcases cut1_get kp.1 h with ⟨h1, h2⟩ | ⟨h1, h2⟩
    · obtain ⟨x, h3, h4⟩ := s'.at_ m c h2
      exact ⟨x, (L.phi m h1).trans h3, h4.less L (kept_cl sm kp h1 h2)⟩
    · subst h1; subst h2
      obtain ⟨x, h3, vs, h4, h5⟩ := s'.at_ n _ hc
      rw [hf] at h3; cases h3
      exact ⟨a, if_pos rfl, (show CellAt K ca _ a (.lst ds') from ⟨vs, h4, Reps.frW L (frC_ok s' L live k) fr h5⟩)⟩
  · have h3 : (if m = W.S.length then some a else W'.φ m) = some x := h3
    have h4 : (if m' = W.S.length then some a else W'.φ m') = some x := h4
    rcases cut1_get kp.1 h1 with ⟨g1, g2⟩ | ⟨g1, g2⟩ <;> rcases cut1_get kp.1 h2 with ⟨g3, g4⟩ | ⟨g3, g4⟩
    · rw [if_neg (by omega)] at h3 h4
      exact s'.inj m m' c c' x g2 g4 h3 h4
    · rw [if_neg (by omega)] at h3
      rw [if_pos g3] at h4
      cases h4
      exact absurd (s'.inj m n c _ a g2 hc h3 hf) (by omega)
    · rw [if_neg (by omega)] at h4
      rw [if_pos g1] at h3
      cases h3
      exact absurd (s'.inj m' n c' _ a g4 hc h4 hf) (by omega)
    · rw [g1, g3]
end
section
variable {J : Jd} {W : Wd}
theorem ifc_post {α β : Type} {R : Wd → α → β → Prop} {p : Prop} {a : Res α} {Q : β → Hp → Prop} (h : PostR J W R (ifc p a .fail) Q) : p ∧ PostR J W R a Q := by
  by_cases c : p
  · rw [ifc_pos c] at h; exact ⟨c, h⟩
  · rw [ifc_neg c] at h; exact h.elim
theorem ok_raw {r : Res Fl} {Q : VK} (p : PostR J W (RD J) (rawR r) Q) : PostR J W (RF J) r (QF { nx := fun _ H => Q .non H, rt := Q }) := by
  cases r with
  | exc c fs S1 => exact p
  | fail => exact p
  | ok fl S1 =>
    intro W' g h1 h2 h3 h4
    cases fl with
    | ret d =>
      cases g with
      | ret v => exact p W' v h1 h2 h3 h4
      | _ => exact h4.elim
    | next ρ =>
      cases g with
      | next σ => exact p W' .non h1 h2 h3 rfl
      | _ => exact h4.elim
    | brk ρ => exact p.elim
    | cont ρ => exact p.elim
theorem ok_cut (sm : Sim J.K J.ca W) {r : Res Fl} {Q : VK} (p : PostR J W (RD J) (cutR W.S r) Q) : PostR J W (RF J) r (QF { nx := fun _ H => Q .non H, rt := Q }) := by
  cases r with
  | exc c fs S1 =>
    intro W' dx fv h1 h2 h3 h4 h5
    subst h1
    obtain ⟨kp, p⟩ := ifc_post (show PostR J W (RD J) (ifc (Kept W.S W'.S) (match frF (frC W'.S W.S.length W'.S.length 6) fs with
        | some fs' => .exc c fs' (W'.S.take W.S.length)
        | none => .fail) .fail) Q from p)
    · skip
      split at p
      · rename_i fs' hf
        obtain ⟨u1, u2⟩ := cut_ok sm kp h2 h3
        refine p (W'.cut W.S.length) dx fv rfl u1 u2 h4 (RepF.frF (Less.cut kp.1) (frC_ok h3 (Less.cut kp.1) (fun a l => ?_) 6) hf h5)
        obtain ⟨n, c, g1, g2, g3⟩ := l.cut
        exact ⟨n, c, .inl g1, g2, g3⟩
      · exact p.elim
  | fail => exact p
  | ok fl S1 =>
    intro W' g h1 h2 h3 h4
    subst h1
    obtain ⟨kp, p⟩ := ifc_post (p := Kept W.S W'.S) (show PostR J W (RD J) (ifc (Kept W.S W'.S) _ .fail) Q from p)
    · skip
      obtain ⟨u1, u2⟩ := cut_ok sm kp h2 h3
      have L := Less.cut (W' := W') (b := W.S.length) kp.1
      have lv : ∀ a, Live (W'.cut W.S.length) a → ∀ ban, ∃ n c, (n < W.S.length ∨ n = ban) ∧ W'.S[n]? = some (some c) ∧ W'.φ n = some a := fun a l ban => by
        obtain ⟨n, c, g1, g2, g3⟩ := l.cut
        exact ⟨n, c, .inl g1, g2, g3⟩
      cases fl with
      | next ρ =>
        cases g with
        | next σ => exact p (W'.cut W.S.length) .non rfl u1 u2 rfl
        | _ => exact h4.elim
      | brk ρ => exact p.elim
      | cont ρ => exact p.elim
      | ret d =>
        cases g with
        | ret v =>
          have rv : Rep J.K W' d v := h4
          have plain : PostR J W (RD J) (match frW (frC W'.S W.S.length W'.S.length 6) d with
            | some d' => .ok d' (W'.S.take W.S.length)
            | none => .fail) Q → Q v W'.H := fun p => by
            split at p
            · rename_i d' hd
              exact p (W'.cut W.S.length) v rfl u1 u2 (Rep.frW L (frC_ok h3 L (fun a l => lv a l _) 6) hd rv)
            · exact p.elim
          cases d with
          | ref n =>
            have p : PostR J W (RD J) (if n < W.S.length then .ok (.ref n) (W'.S.take W.S.length) else (match cellL W'.S n with
              | some ds => (match frWs (frC W'.S W.S.length n 6) ds with
                | some ds' => .ok (.ref W.S.length) (W'.S.take W.S.length ++ [some (.lst ds')])
                | none => .fail)
              | none => .fail)) Q := p
            split at p
            · rename_i hn
              exact p (W'.cut W.S.length) v rfl u1 u2 (Rep.less L (by unfold clD; simpa using hn) rv)
            · rename_i hn
              split at p
              · rename_i ds hd
                split at p
                · rename_i ds' hf
                  have c0 : W'.S[n]? = some (some (.lst ds)) := by
                    unfold cellL at hd
                    split at hd
                    · cases hd; assumption
                    · cases hd
                  obtain ⟨a, vs, g1, g2, g3, g4⟩ := h3.lst_at c0 rv
                  obtain ⟨w1, w2⟩ := cut1_ok sm kp h2 h3 hn c0 g2 hf
                  exact p (W'.cut1 W.S.length a ds') v rfl w1 w2 ⟨a, g1, by show W.S.length < (W'.S.take W.S.length ++ [some (Cell.lst ds')]).length; have := kp.1; rw [List.length_append, List.length_take]; simp; omega, if_pos rfl⟩
                · exact p.elim
              · exact p.elim
          | _ => exact plain p
        | _ => exact h4.elim
end
inductive Mode where
  | raw | cut
noncomputable def outR (m : Mode) (S : Store) (r : Res Fl) : Res D := match m with
  | .raw => rawR r
  | .cut => cutR S r
/-- a def's meaning -/
noncomputable def semB (Γ : Gm) (m : Mode) (n np : Nat) (body : List Stmt) : Sem1 := fun ds S => if ds.length = np then outR m S (exB Γ n body (ds.map some ++ List.replicate (Γ.N.length - np) none) S) else .fail
theorem start_env {K : PySem.W.Frag} {W : Wd} {ds : List D} {vs : List V} {N : List Str} (r : Reps K W ds vs) : EnvR K W (ds.map some ++ List.replicate (N.length - ds.length) none) (L2.start N vs) := by
  have hl := r.length
  unfold L2.start
  rw [← hl]
  refine ⟨by simp [hl], fun i d q => ?_⟩
  by_cases hi : i < ds.length
  · rw [List.getElem?_append_left (by simpa using hi), List.getElem?_map] at q
    rw [List.getElem?_append_left (by simp; omega), List.getElem?_map]
    cases e : ds[i]? with
    | none => rw [e] at q; cases q
    | some d' =>
      rw [e] at q; cases q
      obtain ⟨v, h1, h2⟩ := r.get e
      exact ⟨v, by rw [h1]; rfl, h2⟩
  · rw [List.getElem?_append_right (by simpa using hi), List.getElem?_replicate] at q
    split at q <;> cases q
theorem fn_E {P : Program} {w : World} {K : PySem.W.Frag} {mg : Str → Option Value} {base : Heap} {ca : Str → Addr} {lv : Nat} {f : Addr} {name qual : Str} {params : Arguments} {body : List Stmt} {scope : Scope} {dV kV doc pm cdv ct oc : Value} {an od : Option Addr}
    {osl : Array (Option Value)} {N ps : List Str} {T : Tab} (lk : K.lookup f = some ⟨oc, od, .func (PySem.W.fnOf name qual params body scope dV kV doc pm an cdv ct), osl⟩) (hcd : PySem.W.codeIn K cdv qual = true) (S : FnScope N ps scope)
    (hT : TabOk T P w K mg base ca lv) (hX : ExcOk T P w K mg base ca lv) (m : Mode) (n : Nat) :
    FnOk P w K mg base (L2N.CX P w) (lv + 1) f (PySem.W.fnOf name qual params body scope dV kV doc pm an cdv ct) ps (spD K ca (semB ⟨T, N, scope, fun _ => true, false⟩ m n ps.length body)) := by
  refine fn_of lk hcd S (fun vs H Q E h => ?_) fun A outer s H vs Q E hr hsp => ?_
  · obtain ⟨W, ds, _, _, r, p⟩ := h
    unfold semB at p
    split at p
    · rename_i hl
      rw [r.length]; exact hl
    · exact p.elim
  · obtain ⟨W, ds, hH, sm, r, p⟩ := hsp
    subst hH
    unfold semB at p
    split at p
    · rename_i hl
      have G : Good ⟨T, N, scope, fun _ => true, false⟩ ⟨K, ca, E⟩ (cxOf (L2N.CX P w) P w K mg base N qual scope f cdv A outer s W.H E) lv := {
        K := rfl
        N := rfl
        nd := S.nd
        sc := rfl
        kind := S.kind
        fn := rfl
        calm := fun _ => rfl
        tab := hT
        room := fun _ => hr
        hotc := fun h => nomatch h
        pass := L2N.passes_call (L2N.takes_of (E := E) rfl rfl rfl rfl) (fun _ _ _ _ h => h)
        own := passes_of rfl
        takes := L2N.takes_of rfl rfl rfl rfl }
      rw [← hl] at p
      refine ⟨_, sound_body G rfl rfl hX n body, W, _, rfl, sm, start_env r, ?_⟩
      cases m with
      | raw => exact ok_raw p
      | cut => exact ok_cut sm p
    · exact p.elim
/-- .. called where an exception is handled -/
theorem fn_EH {P : Program} {w : World} {K : PySem.W.Frag} {mg : Str → Option Value} {base : Heap} {ca : Str → Addr} {lv : Nat} {f : Addr} {name qual : Str} {params : Arguments} {body : List Stmt} {scope : Scope} {dV kV doc pm cdv ct oc : Value} {an od : Option Addr}
    {osl : Array (Option Value)} {N ps : List Str} {T : Tab} (lk : K.lookup f = some ⟨oc, od, .func (PySem.W.fnOf name qual params body scope dV kV doc pm an cdv ct), osl⟩) (hcd : PySem.W.codeIn K cdv qual = true) (S : FnScope N ps scope)
    (hT : TabOk T P w K mg base ca lv) (hX : ExcOk T P w K mg base ca lv) (m : Mode) (n : Nat) :
    L2H.FnH P w K mg base (L2N.CX P w) (lv + 1) f (PySem.W.fnOf name qual params body scope dV kV doc pm an cdv ct) ps (spD K ca (semB ⟨T, N, scope, fun _ => true, true⟩ m n ps.length body)) := by
  refine L2H.fn_ofH lk hcd S (fun vs H Q E h => ?_) fun A outer s H vs Q E p0 hot hr hsp => ?_
  · obtain ⟨W, ds, _, _, r, p⟩ := h
    unfold semB at p
    split at p
    · rename_i hl
      rw [r.length]; exact hl
    · exact p.elim
  · obtain ⟨W, ds, hH, sm, r, p⟩ := hsp
    subst hH
    unfold semB at p
    split at p
    · rename_i hl
      have G : Good ⟨T, N, scope, fun _ => true, true⟩ ⟨K, ca, E⟩ (L2H.cxH (L2N.CX P w) P w K mg base N qual scope f cdv A outer s W.H E p0) lv := {
        K := rfl
        N := rfl
        nd := S.nd
        sc := rfl
        kind := S.kind
        fn := rfl
        calm := fun h => nomatch h
        tab := hT
        room := fun h => nomatch h
        hotc := fun _ => ⟨⟨p0, hot, List.mem_cons_self⟩, hr⟩
        pass := L2N.passes_call (L2N.takes_of (E := E) rfl rfl rfl rfl) (fun _ _ _ _ h => h)
        own := passes_of rfl
        takes := L2N.takes_of rfl rfl rfl rfl }
      rw [← hl] at p
      refine ⟨_, sound_body G rfl rfl hX n body, W, _, rfl, sm, start_env r, ?_⟩
      cases m with
      | raw => exact ok_raw p
      | cut => exact ok_cut sm p
    · exact p.elim
end E

set_option linter.all false
set_option maxRecDepth 100000
set_option maxHeartbeats 4000000
/- Evaluator E, part M: own exceptions made: an __init__ that hands its values to super's and keeps each of them. -/
namespace E
namespace Mk
open PySem PySem.W PySem.Calls PyProof.Rows PySem.HandSPX PySem.Spec
theorem look_nd {α : Type} {k : Str} {v : α} : ∀ {l : List (Str × α)}, (l.map (·.1)).Nodup → (k, v) ∈ l → l.lookup k = some v
  | (j, u) :: l, nd, h => by
    rw [List.lookup_cons]
    rw [List.map_cons, List.nodup_cons] at nd
    rcases List.mem_cons.mp h with e | e
    · cases e
      simp
    · have : (k == j) = false := by
        refine beq_eq_false_iff_ne.mpr fun z => nd.1 ?_
        subst z
        exact List.mem_map.mpr ⟨_, e, rfl⟩
      rw [this]
      exact look_nd nd.2 e
theorem look_rev {α : Type} {k : Str} {v : α} {l : List (Str × α)} (nd : (l.map (·.1)).Nodup) (h : (k, v) ∈ l) : l.reverse.lookup k = some v :=
  look_nd (by rw [List.map_reverse]; unfold List.Nodup at nd ⊢; rw [List.pairwise_reverse]; exact nd.imp Ne.symm) (List.mem_reverse.mpr h)
section
variable {prog : Program} {w : World} {A : Around} {E : Value → Shared → Prop} {h : Heap} {g : Array GenState} {d : Drawn} {t : Nat} {os : OsState}
variable {nm q : Str} {C N : Addr} {bs bm : List Value} {hdct : Bool} {sn : List Str} {sub : List Value} {ab : Bool} {col : Option Bool} {dd : Option Addr} {k0 k1 k2 k3 k5 : Option Value}
/-- the bound ValueError.__init__ is called -/
theorem wrap_call {u e t0 : Addr} {rest : List Value} {Q : Value → Shared → Prop} (hC : h.get? C = some (excClassObj nm q C N bs bm hdct sn sub ab col dd k0 k1 k2 k3 k5 "ValueError.__new__")) (he : h.get? e = some (excO C t0))
    (hu : h.get? u = some (kxs_mw "ValueError.__init__" e)) (hz : rest.length ≤ sizeLine) (hq : ∀ h' t1, (∀ b o, b ≠ e → h.get? b = some o → h'.get? b = some o) → h'.get? e = some (excO C t1) → Q .none ⟨h', g, d, t, os⟩) :
    wpAny (model prog w) A (call (.ref u) rest) Q E ⟨h, g, d, t, os⟩ := by
  refine wpAny_call (codeAny_of_tree ?_)
  show wpAny _ A.in1 (callAny (.ref u) ⟨rest, []⟩) _ _ _
  simp only [callAny]
  refine wpAny_bind (wpAny_load hu ?_)
  have hb : (Value.type "method-wrapper" == Value.type "method" || Value.type "method-wrapper" == Value.type "builtin_function_or_method"
      || Value.type "method-wrapper" == Value.type "method-wrapper") = true := by decide
  simp only [kxs_mw, hb, if_true]
  refine KFB.if_so (by decide) ?_
  refine wpAny_bind (PySem.ESX.check_bound PySem.F.excBase_ValueError hC he rfl ?_)
  refine wpAny_bind (wpAny_pure (wpAny_pure ?_))
  refine ⟨Code.quiet_builtin _ (by decide +kernel), codeAny_builtin PySem.F.excBase_ValueError.initEntry ?_⟩
  rw [Around.under_plainId PySem.F.excBase_ValueError.init.plain _]
  wp_walk
  refine hq _ h.objs.size (fun b o hb ho => ?_) ?_
  · rw [Heap.get?_update_other _ _ (Ne.symm hb)]
    exact Heap.get?_push_of_some _ ho
  · rw [Heap.get?_update_self _ (Heap.get?_push_of_some _ he) rfl]
    rfl
end
inductive ArgsOf : List Expr → List Str → Prop
  | nil : ArgsOf [] []
  | cons {f : Str} {p : Pos} {es : List Expr} {fs : List Str} : ArgsOf es fs → ArgsOf (.Name f p :: es) (f :: fs)
inductive StoresOf : List Stmt → List Str → Prop
  | nil : StoresOf [] []
  | cons {f : Str} {p1 p2 p3 p4 : Pos} {ss : List Stmt} {fs : List Str} : StoresOf ss fs → StoresOf (.Assign [.Attribute (.Name "self" p1) f p2] (.Name f p3) p4 :: ss) (f :: fs)
/-- what is written of such a class -/
structure ExT (P : Program) (K : Frag) (mg : Str → Option Value) (C : Addr) (fs : List Str) : Prop where
  cls : ∃ nm q N bs bm sn sub ab col dd k0 k1 k2 k3 k5, K.lookup C = some (excClassObj nm q C N bs bm true sn sub ab col dd k0 k1 k2 k3 k5 "ValueError.__new__") ∧ refsVE bm = true ∧
    alongIn K "__init__" (((Value.ref C :: bm).dropWhile (· != .ref C)).drop 1) = some (some (.builtin "ValueError.__init__"))
  sa : findIn K (.ref C) "__setattr__" = some (some (.builtin "object.__setattr__"))
  exC : subIn K (.ref C) (.type "BaseException") = some true
  veC : subIn K (.ref C) (.type "ValueError") = some true
  meC : mroIn K C (.ref C) = some true
  tyC : typeIn K (.ref C) = some (.type "type")
  kC : keepIn K (.ref C) = true
  no : ∀ f ∈ fs, findIn K (.ref C) f = some none
  th : nsIn K cStatics "thirdparty.any" = some none
  sup : mg "super" = none
  nd : (("self" : Str) :: fs).Nodup
  few : fs.length ≤ 100
  dbg : ∀ f ∈ fs, (f == ("__debug__" : Str)) = false
  top : (P.main.scope.names.lookup ("super" : Str)).isSome = false
  init : ∃ (fI cda cc : Addr) (oc dV kV doc pm ct ccl cl : Value) (od an cdd cld : Option Addr) (osl ccs csl : Array (Option Value)) (nm qual : Str) (params : Arguments) (sc : Scope) (p0 p1 p2 p3 p4 : Pos) (es : List Expr) (ss : List Stmt) (vs : Array Value) (file : Str) (tf : Tok) (ar : Arg),
    findIn K (.ref C) "__init__" = some (some (.ref fI)) ∧ typeIn K (.ref fI) = some (.type "function") ∧
    K.lookup fI = some ⟨oc, od, .func (ksFn nm qual params (.Expr (.Call (.Attribute (.Call (.Name "super" p0) [] [] p1) "__init__" p2) es [] p3) p4 :: ss) sc dV kV doc pm an (.ref cda) ct cc), osl⟩ ∧ codeIn K (.ref cda) qual = true ∧
    K.lookup cc = some ⟨cl, cld, .cell (some (.ref C)), csl⟩ ∧ K.lookup cda = some ⟨ccl, cdd, .fields vs, ccs⟩ ∧ vs[2]? = some (.str file tf) ∧ ((P.main.file : Str) == file) = true ∧
    (params.posonlyargs ++ params.args).head? = some ar ∧ ar.arg = "self" ∧
    (∀ us : List Value, us.length = fs.length + 1 → bindArgs (ksFn nm qual params (.Expr (.Call (.Attribute (.Call (.Name "super" p0) [] [] p1) "__init__" p2) es [] p3) p4 :: ss) sc dV kV doc pm an (.ref cda) ct cc) ⟨us, []⟩ = pure ((("self" : Str) :: fs).zip us)) ∧
    ArgsOf es fs ∧ es ≠ [] ∧ StoresOf ss fs ∧ (∀ x ∈ sc.names, x.2 ≠ .cell) ∧ sc.isCoroutine = false ∧ sc.isGenerator = false ∧ sc.kind = .function ∧ (∀ f ∈ ("self" : Str) :: fs, sc.names.lookup f = some .local) ∧
    sc.names.lookup ("super" : Str) = some .globalImplicit ∧ sc.names.lookup ("__class__" : Str) = some .free ∧
    (∀ env : Env, ∃ pl, eval (.Call (.Attribute (.Call (.Name "super" p0) [] [] p1) "__init__" p2) es [] p3) env = (do
      let ov ← attributeBase (.Call (.Name "super" p0) [] [] p1) "__init__" env (eval (.Call (.Name "super" p0) [] [] p1) env)
      standAt p2.atName
      let (f, first) ← holding [ov] (getMethod ov "__init__" pl)
      callWith p3 f first (backTo p3 (starEach es env)) []))
section
variable {P : Program} {w : World} {A : Around} {E : Value → Shared → Prop} {s : Shared} {K : Frag} {mg : Str → Option Value} {C : Addr} {fs : List Str}
/-- the arguments: names -/
theorem names_run {M : Model} {env : Env} {m : Str → Option Value} {pos : Pos} (hk : env.scope.kind = .function) (hn : s.heap.Ns env.locals m) {es : List Expr} {gs : List Str} (ha : ArgsOf es gs) : ∀ {us : List Value} {Q : List Value → Shared → Prop}, us.length = gs.length →
    (∀ p ∈ gs.zip us, m p.1 = some p.2) → (∀ f ∈ gs, env.kindOf f = some .local) → (∀ f ∈ gs, (f == ("__debug__" : Str)) = false) → Q us s → wpAny M A (spliced (backTo pos (starEach es env))) Q E s := by
  induction ha with
  | nil =>
    intro us Q hl _ _ _ h
    cases us with
    | nil => exact spliced_none h
    | cons u us => cases hl
  | @cons f p es fs ha ih =>
    intro us Q hl hm hloc hd h
    cases us with
    | nil => cases hl
    | cons u us =>
      refine spliced_more (wpAny_Name (wpAny_loadName_local hk (hloc f List.mem_cons_self) hn (hm (f, u) (by rw [List.zip_cons_cons]; exact List.mem_cons_self)) ?_) (hd f List.mem_cons_self)) rfl
      exact ih (by simpa using hl) (fun p hp => hm p (by rw [List.zip_cons_cons]; exact List.mem_cons_of_mem _ hp)) (fun f hf => hloc f (List.mem_cons_of_mem _ hf)) (fun f hf => hd f (List.mem_cons_of_mem _ hf)) h
/-- what the stores leave -/
structure Left (h h' : Heap) (x C t1 : Addr) (dx : Addr) (vs : List (Str × Value)) : Prop where
  keep : ∀ b o, b ≠ x → h.get? b = some o → h'.get? b = some o
  obj : h'.get? x = some ({ cls := .ref C, dict := some dx, data := .fields #[.ref t1, .none, .none, .none, .bool false, .none] } : Obj)
  big : h.objs.size ≤ dx
  ne : dx ≠ x
  ns : ∃ m, h'.Ns1 dx m ∧ ∀ y, m y = vs.lookup y
theorem look_app {α : Type} {l : List (Str × α)} {f : Str} {v : α} (hf : f ∉ l.map (·.1)) (y : Str) : (l ++ [(f, v)]).lookup y = if y = f then some v else l.lookup y := by
  induction l with
  | nil =>
    rw [List.nil_append, List.lookup_cons]
    by_cases e : y = f
    · subst e; simp
    · have : (y == f) = false := beq_eq_false_iff_ne.mpr e
      rw [this, if_neg e]
  | cons p l ih =>
    obtain ⟨k, u⟩ := p
    rw [List.map_cons, List.mem_cons, not_or] at hf
    rw [List.cons_append, List.lookup_cons, List.lookup_cons]
    by_cases e : y = k
    · subst e
      simp [Ne.symm hf.1]
    · have : (y == k) = false := beq_eq_false_iff_ne.mpr e
      rw [this]
      exact ih hf.2
/-- further stores; dn: what is stored already -/
theorem stores_run {hb : Heap} {cd : ClassData} {env : Env} {m : Str → Option Value} {x t1 dx : Addr} (hcl : clsIn K C = some cd) (hm : refsVE cd.mro = true) (hh : cd.hasDict = true) (sa : findIn K (.ref C) "__setattr__" = some (some (.builtin "object.__setattr__")))
    (hk : env.scope.kind = .function) (hself : m "self" = some (.ref x)) (hls : env.kindOf "self" = some .local) (hnL : env.locals ≠ dx) (hKd : K.lookup dx = none) (hbd : hb.get? dx = none) {ss : List Stmt} {gs : List Str} (ha : StoresOf ss gs) :
    ∀ {us : List Value} {dn : List (Str × Value)} {s : Shared} {Q : Flow → Shared → Prop}, us.length = gs.length → (∀ p ∈ gs.zip us, m p.1 = some p.2) → (∀ f ∈ gs, env.kindOf f = some .local) → (∀ f ∈ gs, (f == ("__debug__" : Str)) = false) → (∀ f ∈ gs, findIn K (.ref C) f = some none) →
    (dn.map (·.1) ++ gs).Nodup → dn.length + gs.length ≤ 900 → K.In s.heap → s.heap.Ns env.locals m → Left hb s.heap x C t1 dx dn →
    (∀ h' tk, Left hb h' x C t1 dx (dn ++ gs.zip us) → Q .next { s with heap := h', toks := tk }) → wpAny (model P w) A (execs ss env) Q E s := by
  induction ha with
  | nil =>
    intro us dn s Q hl _ _ _ _ _ _ _ _ L h
    refine wpAny_execs_nil ?_
    have := h s.heap s.toks (by simpa using L)
    exact this
  | @cons f p1 p2 p3 p4 ss gs ha ih =>
    intro us dn s Q hl hm2 hloc hd hno hnd hlen X hn L h
    cases us with
    | nil => cases hl
    | cons u us =>
      obtain ⟨k1, k2, k3, k4, m0, k5, k6⟩ := L
      have hfd : f ∉ dn.map (·.1) := fun z => by
        rw [List.nodup_append] at hnd
        exact hnd.2.2 f z f List.mem_cons_self rfl
      have hw : PySem.Within m0 (dn.map (·.1)) := fun y hy => by
        rw [k6] at hy
        cases hlk : dn.lookup y with
        | none => exact absurd hlk hy
        | some v => exact List.mem_map.mpr ⟨(y, v), PySem.mem_of_lookup hlk, rfl⟩
      obtain ⟨oD, _, _, hoD, _, _⟩ := k5.count hw
      obtain ⟨hp, g, d, t, os⟩ := s
      have v1 : m f = some u := hm2 (f, u) (by rw [List.zip_cons_cons]; exact List.mem_cons_self)
      refine wpAny_execs_cons (plainObj_wpAny_Assign_Attribute (wpAny_Name (wpAny_loadName_local hk (hloc f List.mem_cons_self) hn v1 ?_) (hd f List.mem_cons_self)) rfl)
      refine wpAny_Name (wpAny_loadName_local hk hls hn hself ?_) (by decide)
      refine set_plain X (ox := { cls := .ref C, dict := some dx, data := .fields #[.ref t1, .none, .none, .none, .bool false, .none] }) (od := some oD) ⟨k2, rfl, rfl, hoD⟩ sa ?_
      refine PySem.OEX.osa_old X k2 k5 hw (by rw [List.length_map]; omega) hcl hm hh (hno f List.mem_cons_self) (fun h' tk' kd hn' => ?_)
      refine ih (us := us) (dn := dn ++ [(f, u)]) (by simpa using hl) (fun p hp => hm2 p (by rw [List.zip_cons_cons]; exact List.mem_cons_of_mem _ hp)) (fun f hf => hloc f (List.mem_cons_of_mem _ hf)) (fun f hf => hd f (List.mem_cons_of_mem _ hf))
        (fun f hf => hno f (List.mem_cons_of_mem _ hf)) (by rw [List.map_append, List.append_assoc]; exact hnd) (by rw [List.length_append]; simp only [List.length_cons, List.length_nil] at hlen ⊢; omega) ?_ ?_ ?_ (fun h2 tk2 L2 => h h2 tk2 (by rw [List.append_assoc] at L2; exact L2))
      · exact fun b o e => kd b o (fun z => by rw [z, hKd] at e; cases e) (X b o e)
      · obtain ⟨oL, es, ep, e1, e2⟩ := hn
        exact ⟨oL, es, ep, kd _ _ hnL e1, e2⟩
      · exact ⟨fun b o hb2 e => kd b o (fun z => by rw [z] at e; rw [hbd] at e; cases e) (k1 b o hb2 e), kd _ _ (Ne.symm k4) k2, k3, k4, _, hn', fun y => by rw [look_app hfd, k6]⟩
theorem star_any {env : Env} {pos : Pos} : ∀ {es : List Expr} {gs : List Str}, ArgsOf es gs → (backTo pos (starEach es env)).any (·.1) = false
  | _, _, .nil => rfl
  | _, _, .cons h => by
    show (false || (backTo pos (starEach _ env)).any (·.1)) = false
    rw [star_any h]
    rfl
theorem args_names {M : Model} {f : Value} {env : Env} {pos : Pos} {Q : Args → Shared → Prop} : ∀ {es : List Expr} {gs : List Str}, ArgsOf es gs → es ≠ [] → wpAny M A (spliced (backTo pos (starEach es env))) (fun vs s₁ => Q ⟨vs, []⟩ s₁) E s →
    wpAny M A (evalArgs f true (backTo pos (starEach es env)) []) Q E s
  | _, _, .nil, h, _ => absurd rfl h
  | _, _, .cons (es := es) _, _, h => by
    show wpAny M A (evalArgs f true ((false, _) :: backTo pos (starEach es env)) []) Q E s
    exact evalArgs_plain h
/-- the __init__ runs on a fresh exception -/
theorem init_run (T : ExT P K mg C fs) (hfs : fs ≠ []) {fI : Addr} (hfI : findIn K (.ref C) "__init__" = some (some (.ref fI))) {x t0 : Addr} {us : List Value} (hl : us.length = fs.length) (X : K.In s.heap) (hG : s.heap.Ns mainGlobals mg) (hB : ∃ mb, s.heap.Ns builtinsNs mb ∧ mb "super" = some (.type "super"))
    (hlim : s.heap.NoLimit) (hx : s.heap.get? x = some (excO C t0)) (hKx : K.lookup x = none) (hroom : A.depth < recursionLimit) {R : Result → Shared → Prop}
    (hq : ∀ h' tk t1 dx, Left s.heap h' x C t1 dx (fs.zip us) → R (.ok (.ret .none)) { s with heap := h', toks := tk }) : codeAny (model P w) A (.call (.ref fI) ⟨.ref x :: us, []⟩) R s := by
  obtain ⟨fI', cda, cc, oc, dV, kV, doc, pm, ct, ccl, cl, od, an, cdd, cld, osl, ccs, csl, nm, qual, params, sc, p0, p1, p2, p3, p4, es, ss, vs, file, tf, ar, i1, i2, i3, i4, i5, i6, i7, i8, i9, i10, i11, i12, i13, i14, i15, i16, i17, i18, i19, i20, i21, i22⟩ := T.init
  rw [hfI] at i1
  cases i1
  obtain ⟨kd, scn, scg, scc, scm⟩ := sc
  have i18' : kd = .function := i18
  subst i18'
  obtain ⟨cn, cq, N, bs, bm, sn, sub, ab, col, dd, k0, k1, k2, k3, k5, hC, hbm, hal⟩ := T.cls
  have hcl : clsIn K C = some { name := cn, bases := bs, mro := .ref C :: bm, ns := N, qualname := cq, hasDict := true, slotNames := sn, subclasses := sub, abstract := ab, collection := col, hasDel := false } := by unfold clsIn; rw [hC] <;> rfl
  have hz : (("self" : Str) :: fs).length = (Value.ref x :: us).length := by simp [hl]
  have hnd : (((("self" : Str) :: fs).zip (Value.ref x :: us)).map (·.1)).Nodup := by
    have e : ((("self" : Str) :: fs).zip (Value.ref x :: us)).map (·.1) = ("self" : Str) :: fs := by
      have := List.map_fst_zip (l₁ := ("self" : Str) :: fs) (l₂ := Value.ref x :: us) (by simp [hl])
      exact this
    rw [e]; exact T.nd
  have hm : ∀ p ∈ (("self" : Str) :: fs).zip (Value.ref x :: us), ((("self" : Str) :: fs).zip (Value.ref x :: us)).reverse.lookup p.1 = some p.2 := fun p hp => look_rev hnd hp
  have hself := hm ("self", .ref x) (by rw [List.zip_cons_cons]; exact List.mem_cons_self)
  have hrest : ∀ p ∈ fs.zip us, ((("self" : Str) :: fs).zip (Value.ref x :: us)).reverse.lookup p.1 = some p.2 := fun p hp => hm p (by rw [List.zip_cons_cons]; exact List.mem_cons_of_mem _ hp)
  have hkeys : ∀ y ∈ (("self" : Str) :: fs).zip (Value.ref x :: us), scn.lookup y.1 = some .local := fun y hy => i19 y.1 (List.of_mem_zip hy).1
  refine ks_codeAny_call_defAt (binds := (("self" : Str) :: fs).zip (Value.ref x :: us)) hroom (X _ _ i3) rfl hlim (codeRec_of X i4) rfl (BindsTo.of_eq (i11 (Value.ref x :: us) (by simp [hl]))) i15 hkeys (fun h₁ hns hk₁ => ?_) i16 i17 i18
  have X₁ : K.In h₁ := X.keeps hk₁
  have hx₁ := hk₁ _ _ hx
  have hxL : s.heap.objs.size ≠ x := Nat.ne_of_gt (Heap.lt_size hx)
  have hsz : s.heap.objs.size < h₁.objs.size := hns.lt
  have hlS : ∀ f ∈ ("self" : Str) :: fs, (ksEnv qual ⟨.function, scn, scg, scc, scm⟩ s.heap.objs.size fI (.ref cda) cc).kindOf f = some .local := i19
  obtain ⟨pl, hev⟩ := i22 (ksEnv qual ⟨.function, scn, scg, scc, scm⟩ s.heap.objs.size fI (.ref cda) cc)
  -- the first statement
  refine ks_wpAt_execs_cons (ks_wpAt_Expr_any (ks_wpAt_MethodCall (pl := pl) ?_ hev) rfl rfl)
  refine ks_wpAt_super_base (env := ksEnv qual ⟨.function, scn, scg, scc, scm⟩ s.heap.objs.size fI (.ref cda) cc) i20 i21 (by decide +kernel) rfl (X₁ _ _ i3) rfl i9 rfl (X₁ _ _ i6) rfl i7 i8 T.top ?_
  obtain ⟨mb, hB1, hB2⟩ := hB
  refine ks_loadName_global i18 i20 (loadGlobal_builtin (env := ksEnv qual ⟨.function, scn, scg, scc, scm⟩ s.heap.objs.size fI (.ref cda) cc) (hG.keeps hk₁) T.sup (hB1.keeps hk₁) hB2 ⟨rfl, ?_⟩)
  refine wpAny_loadName_free i18 i21 rfl ⟨_, X₁ _ _ i5, rfl⟩ ?_
  rw [i10]
  refine wpAny_loadName_local i18 (hlS _ List.mem_cons_self) hns hself ?_
  have hC1 := X₁ _ _ hC
  refine ks_wpAny_isType_cls hC1 rfl ⟨rfl, ?_⟩
  refine ks_wpAny_call_super hC1 rfl hx₁ rfl (fun c e => nomatch e) (looks_mroIn X₁ T.meC) (fun h₂ e₂ k₂ => ?_)
  have X₂ : K.In h₂ := X₁.keeps k₂
  have hx₂ := k₂ _ _ hx₁
  have hxC : x ≠ C := fun z => by rw [z, hC] at hKx; cases hKx
  have I₂ : InstAt h₂ x (excO C t0) C none := ⟨hx₂, rfl, rfl, trivial⟩
  refine kxs_getMethod kxs_ValueError e₂ (looks_opaque X₂ T.th) (l₀ := .ref C :: bm) (fun A Q E s k q => wpAny_bind ((looks_clsIn X₂ hcl) A _ E s k (wpAny_pure q))) rfl X₂ hal (I₂.type.andThen (looks_subIn X₂ T.veC)) hxC (by decide +kernel) ?_
  have k₃ : ∀ b o, h₂.get? b = some o → (h₂.push (kxs_mw "ValueError.__init__" x)).get? b = some o := fun b o e => Heap.get?_push_of_some _ e
  have all : ∀ b o, s.heap.get? b = some o → (h₂.push (kxs_mw "ValueError.__init__" x)).get? b = some o := fun b o e => k₃ _ _ (k₂ _ _ (hk₁ _ _ e))
  have hns₃ : (h₂.push (kxs_mw "ValueError.__init__" x)).Ns s.heap.objs.size (fun y => ((("self" : Str) :: fs).zip (Value.ref x :: us)).reverse.lookup y) := (hns.keeps k₂).keeps k₃
  obtain ⟨e1, es', hes⟩ : ∃ e1 es', es = e1 :: es' := by
    cases es with
    | nil => exact absurd rfl i13
    | cons a b => exact ⟨a, b, rfl⟩
  subst hes
  refine kxs_callWith (i := "ValueError.__init__") (x := x) (star_any i12) (args_names i12 (by simp) ?_)
  refine names_run rfl hns₃ i12 hl hrest (fun f hf => hlS f (List.mem_cons_of_mem _ hf)) T.dbg ⟨Heap.get?_push_at rfl rfl, ?_⟩
  have X₃ : K.In (h₂.push (kxs_mw "ValueError.__init__" x)) := X₂.keeps k₃
  refine wrap_call (X₃ _ _ hC) (k₃ _ _ hx₂) (Heap.get?_push_at rfl rfl) (by show us.length ≤ sizeLine; rw [hl, sizeLine_eq]; have := T.few; omega) fun h₄ t1 k₄ hx₄ => ?_
  have all₄ : ∀ b o, b ≠ x → s.heap.get? b = some o → h₄.get? b = some o := fun b o hb e => k₄ b o hb (all b o e)
  have X₄ : K.In h₄ := fun b o e => k₄ b o (fun z => by rw [z, hKx] at e; cases e) (X₃ b o e)
  have hns₄ : h₄.Ns s.heap.objs.size (fun y => ((("self" : Str) :: fs).zip (Value.ref x :: us)).reverse.lookup y) := by
    obtain ⟨oL, es2, ep, q1, q2⟩ := hns₃
    exact ⟨oL, es2, ep, k₄ _ _ hxL q1, q2⟩
  refine wpAt_of_wpAny ?_
  -- the first store
  cases i14 with
  | nil => exact absurd rfl hfs
  | @cons f q1 q2 q3 q4 ss gs ha =>
    cases us with
    | nil => cases hl
    | cons u us =>
      have v1 := hrest (f, u) (by rw [List.zip_cons_cons]; exact List.mem_cons_self)
      refine wpAny_execs_cons (plainObj_wpAny_Assign_Attribute (wpAny_Name (wpAny_loadName_local rfl (hlS f (by simp)) hns₄ v1 ?_) (T.dbg f List.mem_cons_self)) rfl)
      refine wpAny_Name (wpAny_loadName_local rfl (hlS "self" List.mem_cons_self) hns₄ hself ?_) (by decide)
      refine set_plain X₄ (ox := excO C t1) (od := none) ⟨hx₄, rfl, rfl, trivial⟩ T.sa ?_
      refine exc_osa X₄ hx₄ hcl (show refsVE (.ref C :: bm) = true from hbm) rfl (T.no f List.mem_cons_self) (fun h₅ tk₅ dx k₅ dn₅ dne₅ hx₅ hn₅ => ?_)
      have big : s.heap.objs.size ≤ dx := by
        obtain ⟨oL, _, _, q1, _⟩ := hns₄
        exact Nat.le_of_lt (Nat.lt_of_lt_of_le (Heap.lt_size q1) dn₅)
      have hnd2 := T.nd
      have oldL : ∀ b o, h₄.get? b = some o → b ≠ dx := fun b o e => Nat.ne_of_lt (Nat.lt_of_lt_of_le (Heap.lt_size e) dn₅)
      have hKdx : K.lookup dx = none := by
        cases e : K.lookup dx with
        | none => rfl
        | some o => exact absurd rfl (oldL dx o (X₄ _ _ e))
      have hsdx : s.heap.get? dx = none := by
        cases e : s.heap.get? dx with
        | none => rfl
        | some o => exact absurd (Nat.lt_of_lt_of_le (Heap.lt_size e) big) (Nat.lt_irrefl _)
      refine stores_run (hb := s.heap) (m := fun y => ((("self" : Str) :: f :: gs).zip (Value.ref x :: u :: us)).reverse.lookup y) (dn := [(f, u)]) (x := x) (t1 := t1) (dx := dx) (us := us) hcl (show refsVE (.ref C :: bm) = true from hbm) rfl T.sa rfl hself (hlS "self" List.mem_cons_self) ?_ hKdx hsdx ha (by simpa using hl)
        (fun p hp => hrest p (by rw [List.zip_cons_cons]; exact List.mem_cons_of_mem _ hp)) (fun g hg => hlS g (by simp [hg])) (fun g hg => T.dbg g (List.mem_cons_of_mem _ hg)) (fun g hg => T.no g (List.mem_cons_of_mem _ hg)) ?_ ?_ ?_ ?_ ?_ (fun h' tk L => ?_)
      · obtain ⟨oL, _, _, q1, _⟩ := hns₄
        exact oldL _ _ q1
      · exact (List.nodup_cons.mp hnd2).2
      · have := T.few
        simp only [List.length_cons, List.length_nil] at this ⊢
        omega
      · exact fun b o e => k₅ b o (fun z => by rw [z, hKx] at e; cases e) (X₄ b o e)
      · obtain ⟨oL, es2, ep, q1, q2⟩ := hns₄
        exact ⟨oL, es2, ep, k₅ _ _ hxL q1, q2⟩
      · refine ⟨fun b o hb e => k₅ b o hb (all₄ b o hb e), hx₅, big, dne₅, _, hn₅, fun y => ?_⟩
        show (if y = f then some u else none) = List.lookup y [(f, u)]
        rw [List.lookup_cons]
        by_cases e : y = f
        · subst e; simp
        · have : (y == f) = false := beq_eq_false_iff_ne.mpr e
          rw [this, if_neg e]; rfl
      · exact hq h' tk t1 dx L
end
theorem relO_zip : ∀ {fs : List Str} {vs : List L2.V} {us : List Value}, L2.Vals vs us → ∀ f, L2.RelO ((fs.zip vs).lookup f) ((fs.zip us).lookup f)
  | [], _, _, _, f => True.intro
  | g :: fs, [], _, .nil, f => True.intro
  | g :: fs, v :: vs, u :: us, .cons r rr, f => by
    rw [List.zip_cons_cons, List.zip_cons_cons, List.lookup_cons, List.lookup_cons]
    cases e : (f == g) with
    | true => exact r
    | false => exact relO_zip rr f
open L2 in
theorem raise_ok {P : Program} {w : World} {K : PySem.W.Frag} {mg : Str → Option Value} {base : Heap} {ca : Str → Addr} {lv : Nat} {C : Str} {fs : List Str} (T : ExT P K mg (ca C) fs) (hm : mg C = some (.ref (ca C))) (hfs : fs ≠ []) (hdb : (C == ("__debug__" : Str)) = false) : RaiseOk P w K mg base ca lv C fs := by
  intro X es ta p pos hP hw hK hmg hbase hcalm hr hg ha hstar hne
  subst hP; subst hw; subst hK; subst hmg; subst hbase
  obtain ⟨cn, cq, N, bs, bm, sn, sub, ab, col, dd, k0, k1, k2, k3, k5, hC, hbm, hal⟩ := T.cls
  obtain ⟨fI, cda, cc, oc, dV, kV, doc, pm, ct, ccl, cl, od, an, cdd, cld, osl, ccs, csl, nm, qual, params, sc, p0, p1, p2, p3, p4, es', ss, vs, file, tf, ar, i1, i2, irest⟩ := T.init
  cases es with
  | nil => exact absurd rfl hne
  | cons e es =>
  obtain ⟨z1, z2⟩ := noStar_cons hstar
  intro pins s σ H Q I h
  refine wpAny_Call_Name_kw (ld_glob I hg hm ?_ hdb)
  refine PySem.W.callWith_K (h₀ := X.base) I.ok.mod.kin T.kC (thn (ha.run pos pins s σ H _ I h) fun us s1 ⟨vs, H1, I1, r1, hl, q1⟩ => ⟨I1.kIn, ?_⟩) (not_star z1) (star_none z2)
  show wpAny _ _ (call (.ref (ca C)) us) _ _ _
  have hlim := I1.nolimit
  obtain ⟨mb, hb1, hb2⟩ := I1.mod.blt
  have hG := I1.mod.glob.keeps I1.bk
  have hB := hb1.keeps I1.bk
  have hus : us.length = fs.length := by rw [← hl]; exact r1.length.symm
  obtain ⟨hp, g, dr, tk, os⟩ := s1
  have kk : ∀ b o, hp.get? b = some o → ((hp.push (PySem.W.kdv_tup us)).push (excO (ca C) hp.objs.size)).get? b = some o := fun b o e => Heap.get?_push_of_some _ (Heap.get?_push_of_some _ e)
  have hget : ((hp.push (PySem.W.kdv_tup us)).push (excO (ca C) hp.objs.size)).get? (hp.objs.size + 1) = some (excO (ca C) hp.objs.size) := by heap_get
  have hKx : X.K.lookup (hp.objs.size + 1) = none := by
    cases e : X.K.lookup (hp.objs.size + 1) with
    | none => rfl
    | some o => exact absurd (Nat.lt_of_succ_lt (Heap.lt_size (I1.kIn _ _ e))) (Nat.lt_irrefl _)
  have hdep := hr.dp
  refine wpAny_call (PySem.HandSPX.call_own PySem.F.excBase_ValueError (fun Y => PySem.HandSPX.refsVE_contains Y bm hbm) (I1.kIn _ _ hC) (PySem.W.looks_findIn I1.kIn i1) (fun self => PySem.W.bind_fn I1.kIn self i2)
    (by rw [hus, sizeLine_eq]; have := T.few; omega) ?_)
  refine init_run (s := ⟨(hp.push (PySem.W.kdv_tup us)).push (excO (ca C) hp.objs.size), g, dr, tk, os⟩) T hfs i1 hus (fun b o e => kk b o (I1.kIn b o e)) (hG.keeps kk) ⟨mb, hB.keeps kk, (hb2 "super" (by decide)).trans PyProof.Rows.Boot.«super»⟩ (hlim.keeps kk) hget hKx ?_ (fun h' tk' t1 dx L => ?_)
  · show X.A.depth + 1 < recursionLimit
    omega
  · refine ⟨rfl, ?_⟩
    obtain ⟨k1, k2, k3, k4, m, k5, k6⟩ := L
    obtain ⟨G, g1, g2⟩ := restrict h' fun b => decide (b ≠ hp.objs.size + 1)
    have gk : ∀ b, b ≠ hp.objs.size + 1 → G.get? b = h'.get? b := fun b hb => g1 b (decide_eq_true hb)
    have ge : G.get? (hp.objs.size + 1) = none := g2 _ (by simp)
    have ne : ∀ {b : Addr} {o : Obj}, hp.get? b = some o → b ≠ hp.objs.size + 1 := fun {b o} q => Nat.ne_of_lt (Nat.lt_succ_of_lt (Heap.lt_size q))
    have old : ∀ b o, hp.get? b = some o → G.get? b = some o := fun b o q => (gk b (ne q)).trans (k1 b o (ne q) (kk b o q))
    have dbig : hp.objs.size ≤ dx := by
      have := k3
      rw [Heap.size_push, Heap.size_push] at this
      omega
    have ob : ObjOk X.prog X.w (upd H1 dx (.xd (fs.zip vs))) G dx (.xd (fs.zip vs)) := ⟨m, k5.at (fun o q => (gk dx k4).trans q), fun f => by rw [k6]; exact relO_zip r1 f⟩
    have J : Inv X pins σ (upd H1 dx (.xd (fs.zip vs))) ⟨G, g, dr, tk', os⟩ := I1.laid (t' := tk') old dbig ob
    refine ⟨hp.objs.size + 1, _, _, ⟨G, g, dr, tk', os⟩, _, .ref (ca C), some dx, rfl, J, fun b o q => ?_, ge, k2, ⟨rfl, rfl, fun vs e => by cases e; rfl⟩, rfl, rfl, ?_, rfl, I1.bare, raises_own T.exC T.tyC, q1 dx (I1.hok.fresh dbig)⟩
    · by_cases hb : b = hp.objs.size + 1
      · have q' : G.get? b = some o := q
        rw [hb, ge] at q'; cases q'
      · exact (gk b hb).symm.trans q
    · rw [upd_ne (Ne.symm k4)]
      exact I1.hok.fresh (Nat.le_succ _)
end Mk
end E

set_option linter.all false
set_option maxRecDepth 100000
set_option maxHeartbeats 4000000
/- Evaluator E, part L: a program's table, level by level. -/
namespace E
open PySem PySem.Spec PyProof.Rows L2
/-- a def: where it stands, its name, its slots, its text, how it is left, its fuel; own: a meaning that is proved by hand -/
structure Df where
  at_ : Str × Option Str
  nm : Str
  qual : Str
  N : List Str
  st : Stmt
  m : Mode
  fu : Nat
  own : Option (Tab → Sem1)
def Df.ps (d : Df) : List Str := (defArgs d.st).args.map (·.arg)
def Df.gm (d : Df) (T : Tab) (hot : Bool) : Gm := ⟨T, d.N, defScope d.st, fun _ => true, hot⟩
noncomputable def Df.sem (d : Df) (T : Tab) : Sem1 := match d.own with
  | some f => f T
  | none => semB (d.gm T false) d.m d.fu d.ps.length (defBody d.st)
noncomputable def Df.semH (d : Df) (T : Tab) : Sem1 := semB (d.gm T true) d.m d.fu d.ps.length (defBody d.st)
structure Pg where
  defs : List Df
  glob : List (Str × D)
  attrs : List (Str × List Str)
  exc : List (Str × List Str)
  exk : List Str
  exm : List ((Str × Str) × Bool)
  xattr : List (Str × List Str)
  xis : List ((Str × Str) × Bool)
  bis : List Str
  hots : List Str
  wf : Nat
def Pg.find (g : Pg) (p : Str × Option Str) : Option Df := g.defs.find? fun d => d.at_ == p
def memIn (l : List (Str × List Str)) (C f : Str) : Bool := match l.lookup C with
  | some fs => fs.contains f
  | none => false
def Pg.base (g : Pg) : Tab where
  glob x := g.glob.lookup x
  call _ := none
  callH _ := none
  make _ := none
  attr := memIn g.attrs
  meth _ _ := none
  exc x := g.exc.lookup x
  exm x y := g.exm.lookup (x, y)
  exk x := g.exk.contains x
  xattr := memIn g.xattr
  xis x y := g.xis.lookup (x, y)
  bis := g.bis
  wf := g.wf
noncomputable def Pg.next (g : Pg) (T : Tab) : Tab where
  glob x := g.glob.lookup x
  call x := (g.find (x, none)).map fun d => d.sem T
  callH x := if g.hots.contains x then (g.find (x, none)).map fun d => d.semH T else none
  make x := T.meth x "__init__"
  attr := memIn g.attrs
  meth x m := (g.find (x, some m)).map fun d => d.sem T
  exc x := g.exc.lookup x
  exm x y := g.exm.lookup (x, y)
  exk x := g.exk.contains x
  xattr := memIn g.xattr
  xis x y := g.xis.lookup (x, y)
  bis := g.bis
  wf := g.wf
noncomputable def Pg.tab (g : Pg) : Nat → Tab
  | 0 => g.base
  | n + 1 => g.next (g.tab n)
/-- a meaning proved by hand -/
def OwnOk (d : Df) (P : Program) (w : World) (K : PySem.W.Frag) (mg : Str → Option Value) (base : Heap) (ca : Str → Addr) (F : Tab → Sem1) : Prop :=
  ∀ (f : Addr) (fd : FuncData) (T : Tab) (lv : Nat), FunD K d.nm d.qual (defArgs d.st) (defBody d.st) (defScope d.st) [] [] f fd → FnScope d.N d.ps (defScope d.st) → TabOk T P w K mg base ca lv → ExcOk T P w K mg base ca lv →
    FnOk P w K mg base (L2N.CX P w) (lv + 1) f fd d.ps (spD K ca (F T))
/-- what the top has written -/
structure PgOk (g : Pg) (P : Program) (w : World) (K : PySem.W.Frag) (mg : Str → Option Value) (base : Heap) : Prop where
  defs : ∀ d ∈ g.defs, ∃ fd, FunD K d.nm d.qual (defArgs d.st) (defBody d.st) (defScope d.st) [] [] (He.fAd K d.at_) fd ∧ Binds K fd d.ps [] ∧ FnScope d.N d.ps (defScope d.st)
  own : ∀ d ∈ g.defs, ∀ F, d.own = some F → OwnOk d P w K mg base (He.ga K) F
  gl : ∀ d ∈ g.defs, ∀ x, d.at_ = (x, none) → mg x = some (.ref (He.ga K x))
  me : ∀ d ∈ g.defs, ∀ C m, d.at_ = (C, some m) → Cls K (He.ga K C) ∧ Meth K (He.ga K C) m (He.ma K (He.ga K C) m)
  mkr : ∀ d ∈ g.defs, ∀ C, d.at_ = (C, some ("__init__" : Str)) → Mk K (He.ga K C) (He.ma K (He.ga K C) "__init__") ∧ mg C = some (.ref (He.ga K C))
  glob : ∀ x d, g.glob.lookup x = some d → ∃ u v, mg x = some u ∧ RelV v u ∧ ∀ W, Rep K W d v
  attr : ∀ C f, memIn g.attrs C f = true → Cls K (He.ga K C) ∧ NoAttr K (He.ga K C) f
  exc : ∀ C fs, g.exc.lookup C = some fs → fs ≠ [] ∧ (C == ("__debug__" : Str)) = false ∧ mg C = some (.ref (He.ga K C)) ∧ Mk.ExT P K mg (He.ga K C) fs
  exm : ∀ C D b, g.exm.lookup (C, D) = some b → PySem.W.exmOne K (.ref (He.ga K C)) (.ref (He.ga K D)) = some b
  exk : ∀ C, g.exk.contains C = true → mg C = some (.ref (He.ga K C))
  xattr : ∀ C f, memIn g.xattr C f = true → XfC K (He.ga K C) ∧ PySem.W.findIn K (.ref (He.ga K C)) f = some none
  xis : ∀ C D b, g.xis.lookup (C, D) = some b → XkC K (He.ga K C) ∧ mg D = some (.ref (He.ga K D)) ∧ PySem.W.kitOne K (.ref (He.ga K C)) (.ref (He.ga K D)) = some b
  bis : ∀ x, x ∈ g.bis → mg x = none
section
variable {g : Pg} {P : Program} {w : World} {K : PySem.W.Frag} {mg : Str → Option Value} {base : Heap}
theorem find_at {p : Str × Option Str} {d : Df} (h : g.find p = some d) : d ∈ g.defs ∧ d.at_ = p := by
  unfold Pg.find at h
  exact ⟨List.mem_of_find?_eq_some h, by simpa using List.find?_some h⟩
theorem exc_ok (O : PgOk g P w K mg base) {T : Tab} (hT : T.exc = fun C => g.exc.lookup C) (lv : Nat) : ExcOk T P w K mg base (He.ga K) lv := fun C fs h => by
  rw [hT] at h
  obtain ⟨h1, h2, h3, h4⟩ := O.exc C fs h
  exact ⟨h1, Mk.raise_ok h4 h3 h1 h2⟩
theorem def_run (O : PgOk g P w K mg base) {d : Df} (hd : d ∈ g.defs) {fd : FuncData} (F : FunD K d.nm d.qual (defArgs d.st) (defBody d.st) (defScope d.st) [] [] (He.fAd K d.at_) fd) (S : FnScope d.N d.ps (defScope d.st)) {T : Tab} {lv : Nat} (hT : TabOk T P w K mg base (He.ga K) lv) (hX : ExcOk T P w K mg base (He.ga K) lv) :
    FnOk P w K mg base (L2N.CX P w) (lv + 1) (He.fAd K d.at_) fd d.ps (spD K (He.ga K) (d.sem T)) ∧ L2H.FnH P w K mg base (L2N.CX P w) (lv + 1) (He.fAd K d.at_) fd d.ps (spD K (He.ga K) (d.semH T)) := by
  refine ⟨?_, ?_⟩
  · unfold Df.sem
    split
    · rename_i f hf
      exact O.own d hd f hf _ fd T lv F S hT hX
    · obtain ⟨oc, od, dV, kV, doc, pm, an, cdv, ct, osl, e, lk, hcd, _, _⟩ := F.ex
      subst e
      exact fn_E lk hcd S hT hX d.m d.fu
  · unfold Df.semH
    obtain ⟨oc, od, dV, kV, doc, pm, an, cdv, ct, osl, e, lk, hcd, _, _⟩ := F.ex
    subst e
    exact fn_EH lk hcd S hT hX d.m d.fu
theorem def_ok (O : PgOk g P w K mg base) {d : Df} (hd : d ∈ g.defs) {T : Tab} {lv : Nat} (hT : TabOk T P w K mg base (He.ga K) lv) (hX : ExcOk T P w K mg base (He.ga K) lv) :
    ∃ fd, PySem.W.keepIn K (.ref (He.fAd K d.at_)) = true ∧ Binds K fd d.ps [] ∧ FnOk P w K mg base (L2N.CX P w) (lv + 1) (He.fAd K d.at_) fd d.ps (spD K (He.ga K) (d.sem T)) ∧
      L2H.FnH P w K mg base (L2N.CX P w) (lv + 1) (He.fAd K d.at_) fd d.ps (spD K (He.ga K) (d.semH T)) := by
  obtain ⟨fd, F, B, S⟩ := O.defs d hd
  exact ⟨fd, F.kp, B, def_run O hd F S hT hX⟩
theorem tab_ok (O : PgOk g P w K mg base) : ∀ lv, TabOk (g.tab lv) P w K mg base (He.ga K) lv ∧ ExcOk (g.tab lv) P w K mg base (He.ga K) lv
  | 0 => by
    refine ⟨⟨O.glob, fun x f h => (nomatch h), fun x f h => (nomatch h), O.attr, fun C m f h => (nomatch h), fun x f h => (nomatch h), O.exm, O.xattr, O.xis, fun C h => O.exk C h, O.bis⟩, exc_ok O rfl 0⟩
  | lv + 1 => by
    obtain ⟨hT, hX⟩ := tab_ok O lv
    refine ⟨⟨O.glob, fun x f h => ?_, fun x f h => ?_, O.attr, fun C m f h => ?_, fun x f h => ?_, O.exm, O.xattr, O.xis, fun C h => O.exk C h, O.bis⟩, exc_ok O rfl _⟩
    · obtain ⟨d, h1, h2⟩ := Option.map_eq_some_iff.mp (show (g.find (x, none)).map (fun d => d.sem (g.tab lv)) = some f from h)
      subst h2
      obtain ⟨hd, ha⟩ := find_at h1
      obtain ⟨fd, k1, k2, k3, _⟩ := def_ok O hd hT hX
      rw [ha] at k1 k3
      exact ⟨_, fd, d.ps, O.gl d hd x ha, k1, k2, k3⟩
    · have h : (g.tab lv).meth x "__init__" = some f := h
      cases lv with
      | zero => cases h
      | succ lv =>
        obtain ⟨d, h1, h2⟩ := Option.map_eq_some_iff.mp (show (g.find (x, some ("__init__" : Str))).map (fun d => d.sem (g.tab lv)) = some f from h)
        subst h2
        obtain ⟨hd, ha⟩ := find_at h1
        obtain ⟨hT0, hX0⟩ := tab_ok O lv
        obtain ⟨fd, k1, k2, k3, _⟩ := def_ok O hd hT0 hX0
        rw [ha] at k1 k3
        obtain ⟨m1, m2⟩ := O.mkr d hd x ha
        exact ⟨_, fd, d.ps, lv + 1, rfl, m2, m1, k2, k3⟩
    · obtain ⟨d, h1, h2⟩ := Option.map_eq_some_iff.mp (show (g.find (C, some m)).map (fun d => d.sem (g.tab lv)) = some f from h)
      subst h2
      obtain ⟨hd, ha⟩ := find_at h1
      obtain ⟨fd, k1, k2, k3, _⟩ := def_ok O hd hT hX
      rw [ha] at k1 k3
      obtain ⟨m1, m2⟩ := O.me d hd C m ha
      exact ⟨_, fd, d.ps, m1, m2, k2, k3⟩
    · have h : (if g.hots.contains x then (g.find (x, none)).map (fun d => d.semH (g.tab lv)) else none) = some f := h
      split at h
      · obtain ⟨d, h1, h2⟩ := Option.map_eq_some_iff.mp h
        subst h2
        obtain ⟨hd, ha⟩ := find_at h1
        obtain ⟨fd, k1, k2, _, k3⟩ := def_ok O hd hT hX
        rw [ha] at k1 k3
        exact ⟨_, fd, d.ps, O.gl d hd x ha, k1, k2, k3⟩
      · cases h
/-- a def at a level -/
theorem pg_fn (O : PgOk g P w K mg base) {x : Str} {d : Df} (h : g.find (x, none) = some d) (lv : Nat) : ∃ fd, Binds K fd d.ps [] ∧ FnOk P w K mg base (L2N.CX P w) (lv + 1) (He.ga K x) fd d.ps (spD K (He.ga K) (d.sem (g.tab lv))) := by
  obtain ⟨hd, ha⟩ := find_at h
  obtain ⟨hT, hX⟩ := tab_ok O lv
  obtain ⟨fd, k1, k2, k3, _⟩ := def_ok O hd hT hX
  rw [ha] at k3
  exact ⟨fd, k2, k3⟩
end
end E

set_option linter.all false
set_option maxRecDepth 100000
set_option maxHeartbeats 4000000
/- Evaluator E, part O: the table read off the top. -/
namespace E
open PySem PySem.Spec PyProof.Rows L2
theorem mem_lk {α β : Type} [BEq α] [LawfulBEq α] {k : α} {v : β} : ∀ {l : List (α × β)}, l.lookup k = some v → (k, v) ∈ l
  | (j, u) :: l, h => by
    rw [List.lookup_cons] at h
    split at h
    · rename_i e
      cases h
      rw [beq_iff_eq.mp e]
      exact List.mem_cons_self
    · exact List.mem_cons_of_mem _ (mem_lk h)
theorem ba {a b : Bool} (h : (a && b) = true) : a = true ∧ b = true := Bool.and_eq_true_iff.mp h
mutual
/-- a constant of the module, as it is written -/
def gvB (K : PySem.W.Frag) : D → Value → Bool
  | .non, .none => true
  | .bl b, .bool c => decide (b = c)
  | .int i, .int j _ => decide (i = j)
  | .str s, .str z _ => decide (s = z)
  | .tup ds, .ref a => (match K.lookup a with
    | some ⟨.type c, _, .seq its _, _⟩ => decide (c = "tuple") && decide (its.size ≤ sizeLine) && gvBs K ds its.toList
    | _ => false)
  | _, _ => false
def gvBs (K : PySem.W.Frag) : List D → List Value → Bool
  | [], [] => true
  | d :: ds, u :: us => gvB K d u && gvBs K ds us
  | _, _ => false
end
mutual
theorem gvB_ok {K : PySem.W.Frag} : ∀ {d : D} {u : Value}, gvB K d u = true → ∃ v, RelV v u ∧ ∀ W, Rep K W d v
  | .non, u, h => by
    cases u <;> first | exact ⟨.non, rfl, fun _ => rfl⟩ | (unfold gvB at h; cases h)
  | .bl b, u, h => by
    cases u <;> first | (unfold gvB at h; cases of_decide_eq_true h; exact ⟨.bl _, rfl, fun _ => rfl⟩) | (unfold gvB at h; cases h)
  | .int b, u, h => by
    cases u <;> first | (unfold gvB at h; cases of_decide_eq_true h; exact ⟨.int _, ⟨_, rfl⟩, fun _ => rfl⟩) | (unfold gvB at h; cases h)
  | .str b, u, h => by
    cases u <;> first | (unfold gvB at h; cases of_decide_eq_true h; exact ⟨.str _, ⟨_, rfl⟩, fun _ => rfl⟩) | (unfold gvB at h; cases h)
  | .tup ds, u, h => by
    cases u with
    | ref a =>
      unfold gvB at h
      split at h
      · rename_i c od its n sl e
        obtain ⟨h1, h3⟩ := ba h
        obtain ⟨h1, h2⟩ := ba h1
        obtain ⟨vs, r1, r2⟩ := gvBs_ok h3
        have hc := of_decide_eq_true h1
        exact ⟨.ref a, rfl, fun W => ⟨a, vs, rfl, .inr ⟨_, its, n, e, congrArg Value.type hc, rfl, of_decide_eq_true h2, r1⟩, r2 W⟩⟩
      · cases h
    | _ => unfold gvB at h; cases h
  | .lst ds, u, h => by unfold gvB at h; cases h
  | .scr ds, u, h => by unfold gvB at h; cases h
  | .ref ds, u, h => by unfold gvB at h; cases h
theorem gvBs_ok {K : PySem.W.Frag} : ∀ {ds : List D} {us : List Value}, gvBs K ds us = true → ∃ vs, Vals vs us ∧ ∀ W, Reps K W ds vs
  | [], [], _ => ⟨[], .nil, fun _ => rfl⟩
  | [], _ :: _, h => by unfold gvBs at h; cases h
  | _ :: _, [], h => by unfold gvBs at h; cases h
  | d :: ds, u :: us, h => by
    unfold gvBs at h
    obtain ⟨h1, h2⟩ := ba h
    obtain ⟨v, a1, a2⟩ := gvB_ok h1
    obtain ⟨vs, b1, b2⟩ := gvBs_ok h2
    exact ⟨v :: vs, .cons a1 b1, fun W => ⟨v, vs, rfl, a2 W, b2 W⟩⟩
end
/-- an exception's class: its name, its __init__ -/
structure Xd where
  C : Str
  qual : Str
  fs : List Str
  st : Stmt
abbrev FnC : Type := Option (Str × Str × Arguments × FuncBody × Scope × Addr × Addr × List Str)
def fnC (K : PySem.W.Frag) (C : Str) : FnC := match K.lookup (He.ma K (He.ga K C) "__init__") with
  | some ⟨_, _, .func fd, _⟩ => some (fd.name, fd.qualname, fd.params, fd.body, fd.scope, fd.globals, fd.builtins, fd.closure.map (·.1))
  | _ => none
def Xd.val (x : Xd) : FnC := some ("__init__", x.qual, defArgs x.st, .stmts (defBody x.st), defScope x.st, mainGlobals, builtinsNs, ["__class__"])
/-- the class's object -/
def clsB (K : PySem.W.Frag) (C : Addr) : Bool := match K.lookup C with
  | some ⟨.type c, _, .cls cd, sl⟩ => decide (c = "type") && (match cd.mro, sl.toList with
    | .ref C2 :: bm, [_, _, _, _, some (.builtin n), _] => decide (C2 = C) && decide (n = "ValueError.__new__") && cd.hasDict && !cd.hasDel && PySem.HandSPX.refsVE bm &&
      decide (PySem.W.alongIn K "__init__" (((Value.ref C :: bm).dropWhile (· != .ref C)).drop 1) = some (some (.builtin "ValueError.__init__")))
    | _, _ => false)
  | _ => false
/-- the __init__'s cell, code -/
def iniB (P : Program) (K : PySem.W.Frag) (C : Addr) (qual : Str) : Bool := match K.lookup (He.ma K C "__init__") with
  | some ⟨_, _, .func fd, _⟩ => (match fd.closure, fd.code, fd.defaults with
    | [(_, cc)], .ref cda, .none => PySem.W.codeIn K (.ref cda) qual && (match K.lookup cc with
      | some ⟨_, _, .cell (some (.ref D)), _⟩ => decide (D = C)
      | _ => false) && (match K.lookup cda with
      | some ⟨_, _, Data.fields vs, _⟩ => (match (vs[2]? : Option Value) with
        | some (Value.str file _) => ((P.main.file : Str) == file)
        | _ => false)
      | _ => false)
    | _, _, _ => false)
  | _ => false
def Xd.ok (P : Program) (K : PySem.W.Frag) (x : Xd) : Bool :=
  He.eqO (PySem.W.nsIn K mainGlobals x.C) (some (some (.ref (He.ga K x.C)))) && clsB K (He.ga K x.C) && iniB P K (He.ga K x.C) x.qual &&
  decide (PySem.W.findIn K (.ref (He.ga K x.C)) "__setattr__" = some (some (.builtin "object.__setattr__"))) && decide (PySem.W.subIn K (.ref (He.ga K x.C)) (.type "BaseException") = some true) &&
  decide (PySem.W.subIn K (.ref (He.ga K x.C)) (.type "ValueError") = some true) && decide (PySem.W.mroIn K (He.ga K x.C) (.ref (He.ga K x.C)) = some true) && decide (PySem.W.typeIn K (.ref (He.ga K x.C)) = some (.type "type")) &&
  PySem.W.keepIn K (.ref (He.ga K x.C)) && x.fs.all (fun f => decide (PySem.W.findIn K (.ref (He.ga K x.C)) f = some none)) && decide (PySem.W.nsIn K cStatics "thirdparty.any" = some none) &&
  decide (PySem.W.nsIn K mainGlobals "super" = some none) && decide (PySem.W.findIn K (.ref (He.ga K x.C)) "__init__" = some (some (.ref (He.ma K (He.ga K x.C) "__init__")))) &&
  decide (PySem.W.typeIn K (.ref (He.ma K (He.ga K x.C) "__init__")) = some (.type "function"))
/-- what the text says of the __init__ -/
structure XdOk (P : Program) (x : Xd) : Prop where
  ne : x.fs ≠ []
  dbg : (x.C == ("__debug__" : Str)) = false
  nd : (("self" : Str) :: x.fs).Nodup
  few : x.fs.length ≤ 100
  dbf : ∀ f ∈ x.fs, (f == ("__debug__" : Str)) = false
  top : (P.main.scope.names.lookup ("super" : Str)).isSome = false
  txt : ∃ (p0 p1 p2 p3 p4 : Pos) (es : List Expr) (ss : List Stmt) (ar : Arg), defBody x.st = .Expr (.Call (.Attribute (.Call (.Name "super" p0) [] [] p1) "__init__" p2) es [] p3) p4 :: ss ∧
    ((defArgs x.st).posonlyargs ++ (defArgs x.st).args).head? = some ar ∧ ar.arg = "self" ∧ Mk.ArgsOf es x.fs ∧ es ≠ [] ∧ Mk.StoresOf ss x.fs ∧
    (∀ (nm : Str) (kV doc pm : Value) (an : Option Addr) (cda cc : Addr) (ct : Value) (us : List Value), us.length = x.fs.length + 1 →
      bindArgs (PySem.W.ksFn nm x.qual (defArgs x.st) (defBody x.st) (defScope x.st) .none kV doc pm an (.ref cda) ct cc) ⟨us, []⟩ = pure ((("self" : Str) :: x.fs).zip us)) ∧
    (∀ env : Env, ∃ pl, eval (.Call (.Attribute (.Call (.Name "super" p0) [] [] p1) "__init__" p2) es [] p3) env = (do
      let ov ← attributeBase (.Call (.Name "super" p0) [] [] p1) "__init__" env (eval (.Call (.Name "super" p0) [] [] p1) env)
      standAt p2.atName
      let (f, first) ← holding [ov] (getMethod ov "__init__" pl)
      callWith p3 f first (backTo p3 (starEach es env)) []))
  cell : ∀ y ∈ (defScope x.st).names, y.2 ≠ .cell
  co : (defScope x.st).isCoroutine = false
  gen : (defScope x.st).isGenerator = false
  kind : (defScope x.st).kind = .function
  loc : ∀ f ∈ ("self" : Str) :: x.fs, (defScope x.st).names.lookup f = some .local
  sup : (defScope x.st).names.lookup ("super" : Str) = some .globalImplicit
  cls : (defScope x.st).names.lookup ("__class__" : Str) = some .free
section
variable {P : Program} {K : PySem.W.Frag} {h : Heap} {mg : Str → Option Value}
theorem clsB_ok {C : Addr} (g0 : clsB K C = true) : ∃ nm q N bs bm sn sub ab col dd k0 k1 k2 k3 k5, K.lookup C = some (excClassObj nm q C N bs bm true sn sub ab col dd k0 k1 k2 k3 k5 "ValueError.__new__") ∧ PySem.HandSPX.refsVE bm = true ∧
    PySem.W.alongIn K "__init__" (((Value.ref C :: bm).dropWhile (· != .ref C)).drop 1) = some (some (.builtin "ValueError.__init__")) := by
  unfold clsB at g0
  split at g0
  · rename_i c dd cd sl e
    obtain ⟨h1, g1⟩ := ba g0
    have h1' := of_decide_eq_true h1
    clear h1 g0
    subst h1'
    split at g1
    · rename_i C2 bm k0 k1 k2 k3 n k5 hm hs
      obtain ⟨g2, h7⟩ := ba g1
      obtain ⟨g3, h6⟩ := ba g2
      obtain ⟨g4, h5⟩ := ba g3
      obtain ⟨g5, h4⟩ := ba g4
      obtain ⟨h2, h3⟩ := ba g5
      have h2' := of_decide_eq_true h2
      have h3' := of_decide_eq_true h3
      clear g1 g2 g3 g4 g5 h2 h3
      subst h2'; subst h3'
      replace h5 : cd.hasDel = false := by simpa using h5
      have hs' : sl = #[k0, k1, k2, k3, some (.builtin "ValueError.__new__"), k5] := by
        have := congrArg List.toArray hs
        simpa using this
      obtain ⟨nm, bs, mro, ns, qn, hd, sn, sub, ab, col, del⟩ := cd
      dsimp only at hm h4 h5
      subst hm; subst h4; subst h5; subst hs'
      exact ⟨nm, qn, ns, bs, bm, sn, sub, ab, col, dd, k0, k1, k2, k3, k5, e, h6, of_decide_eq_true h7⟩
    · cases g1
  · cases g0
theorem iniB_ok {C : Addr} {x : Xd} (h : iniB P K C x.qual = true) (hv : C = He.ga K x.C) (hf : fnC K x.C = x.val) : ∃ (cda cc : Addr) (oc kV doc pm ct ccl cl : Value) (od an cdd cld : Option Addr) (osl ccs csl : Array (Option Value)) (vs : Array Value) (file : Str) (tf : Tok),
    K.lookup (He.ma K C "__init__") = some ⟨oc, od, .func (PySem.W.ksFn "__init__" x.qual (defArgs x.st) (defBody x.st) (defScope x.st) .none kV doc pm an (.ref cda) ct cc), osl⟩ ∧ PySem.W.codeIn K (.ref cda) x.qual = true ∧
    K.lookup cc = some ⟨cl, cld, .cell (some (.ref C)), csl⟩ ∧ K.lookup cda = some ⟨ccl, cdd, .fields vs, ccs⟩ ∧ vs[2]? = some (.str file tf) ∧ ((P.main.file : Str) == file) = true := by
  subst hv
  unfold iniB at h
  unfold fnC Xd.val at hf
  split at h
  · rename_i oc od fd osl e
    rw [e] at hf
    have hf := Option.some.inj hf
    split at h
    · rename_i nn cc cda hc hcd hdf
      obtain ⟨h, h3⟩ := ba h
      obtain ⟨h1, h2⟩ := ba h
      split at h2
      · rename_i cl cld D csl ec
        replace h2 := of_decide_eq_true h2
        subst h2
        split at h3
        · rename_i ccl cdd vs ccs ek
          split at h3
          · rename_i file tf ef
            obtain ⟨nm, q2, params, body, sc, gl, clo, dfl, kwd, doc, pm, an, cdv, ct, bl⟩ := fd
            dsimp only at hc hcd hdf
            subst hc; subst hcd; subst hdf
            simp only [Prod.mk.injEq, List.map_cons, List.map_nil, List.cons.injEq, and_true] at hf
            obtain ⟨e1, e2, e3, e4, e5, e6, e7, e8⟩ := hf
            subst e1; subst e2; subst e3; subst e4; subst e5; subst e6; subst e7; subst e8
            exact ⟨cda, cc, oc, kwd, doc, pm, ct, ccl, cl, od, an, cdd, cld, osl, ccs, csl, vs, file, tf, e, h1, ec, ek, ef, h3⟩
          · cases h3
        · cases h3
      · cases h2
    · cases h
  · cases h
theorem exT_of (X : K.In h) (G : h.Ns mainGlobals mg) {x : Xd} (S : XdOk P x) (hf : fnC K x.C = x.val) (hk : x.ok P K = true) : mg x.C = some (.ref (He.ga K x.C)) ∧ Mk.ExT P K mg (He.ga K x.C) x.fs := by
  unfold Xd.ok at hk
  obtain ⟨hk, b14⟩ := ba hk
  obtain ⟨hk, b13⟩ := ba hk
  obtain ⟨hk, b12⟩ := ba hk
  obtain ⟨hk, b11⟩ := ba hk
  obtain ⟨hk, b10⟩ := ba hk
  obtain ⟨hk, b9⟩ := ba hk
  obtain ⟨hk, b8⟩ := ba hk
  obtain ⟨hk, b7⟩ := ba hk
  obtain ⟨hk, b6⟩ := ba hk
  obtain ⟨hk, b5⟩ := ba hk
  obtain ⟨hk, b4⟩ := ba hk
  obtain ⟨hk, b3⟩ := ba hk
  obtain ⟨b1, b2⟩ := ba hk
  obtain ⟨p0, p1, p2, p3, p4, es, ss, ar, t1, t2, t3, t4, t5, t6, t7, t8⟩ := S.txt
  obtain ⟨cda, cc, oc, kV, doc, pm, ct, ccl, cl, od, an, cdd, cld, osl, ccs, csl, vs, file, tf, q1, q2, q3, q4, q5, q6⟩ := iniB_ok b3 rfl hf
  rw [t1] at q1
  simp only [t1] at t7
  exact ⟨PySem.W.mg_of X G (He.eqO_ok b1), {
    cls := clsB_ok b2, sa := of_decide_eq_true b4, exC := of_decide_eq_true b5, veC := of_decide_eq_true b6, meC := of_decide_eq_true b7, tyC := of_decide_eq_true b8, kC := b9,
    no := fun f hf => of_decide_eq_true (List.all_eq_true.mp b10 f hf), th := of_decide_eq_true b11, sup := PySem.W.mg_none_of X G (of_decide_eq_true b12), nd := S.nd, few := S.few, dbg := S.dbf, top := S.top,
    init := ⟨_, cda, cc, oc, .none, kV, doc, pm, ct, ccl, cl, od, an, cdd, cld, osl, ccs, csl, _, x.qual, _, defScope x.st, p0, p1, p2, p3, p4, es, ss, vs, file, tf, ar, of_decide_eq_true b13, of_decide_eq_true b14, q1, q2, q3, q4, q5, q6, t2, t3,
      fun us hu => t7 _ _ _ _ _ _ _ _ us hu, t4, t5, t6, S.cell, S.co, S.gen, S.kind, S.loc, S.sup, S.cls, t8⟩ }⟩
end
/-! ### what is looked at behind the top -/
def Df.dd (d : Df) : He.DefD := ⟨d.at_, d.nm, d.qual, defArgs d.st, defBody d.st, defScope d.st, [], []⟩
def faOf (g : Pg) : List He.Fa := g.defs.flatMap (fun d => match d.at_ with
    | (x, none) => [He.Fa.glo x]
    | (C, some m) => [He.Fa.cls C, He.Fa.meth C m] ++ if m = "__init__" then [He.Fa.mkr C, He.Fa.glo C] else []) ++
  g.attrs.flatMap (fun q => He.Fa.cls q.1 :: q.2.map fun f => He.Fa.noat q.1 f) ++ g.bis.map He.Fa.free
def xkB (K : PySem.W.Frag) (C : Addr) : Bool := (PySem.W.clsIn K C).isSome && decide (PySem.W.findIn K (.ref C) "__getattribute__" = some (some (.builtin "BaseException.__getattribute__"))) &&
  decide (PySem.W.findIn K (.ref C) "__getattr__" = some none) && decide (PySem.W.subIn K (.ref C) (.type "BaseException") = some true) && decide (PySem.W.findIn K (.ref C) "__class__" = some (some (.builtin "object.__class__"))) &&
  decide (PySem.W.specialIn K (.builtin "object.__class__") "__get__" = some (some (.builtin "getset_descriptor.__get__"))) && decide (PySem.W.takesIn K (.builtin "object.__class__") = some true) && decide (PySem.W.mroIn K C (.type "object") = some true)
theorem xkB_ok {K : PySem.W.Frag} {C : Addr} (h : xkB K C = true) : XkC K C := by
  unfold xkB at h
  obtain ⟨h, b8⟩ := ba h
  obtain ⟨h, b7⟩ := ba h
  obtain ⟨h, b6⟩ := ba h
  obtain ⟨h, b5⟩ := ba h
  obtain ⟨h, b4⟩ := ba h
  obtain ⟨h, b3⟩ := ba h
  obtain ⟨b1, b2⟩ := ba h
  exact ⟨b1, of_decide_eq_true b2, of_decide_eq_true b3, of_decide_eq_true b4, of_decide_eq_true b5, of_decide_eq_true b6, of_decide_eq_true b7, of_decide_eq_true b8⟩
def gloB (K : PySem.W.Frag) (x : Str) : Bool := He.eqO (PySem.W.nsIn K mainGlobals x) (some (some (.ref (He.ga K x))))
def obxB (g : Pg) (xs : List Xd) (P : Program) (K : PySem.W.Frag) : Bool :=
  g.glob.all (fun q => match PySem.W.nsIn K mainGlobals q.1 with
    | some (some u) => gvB K q.2 u
    | _ => false) && xs.all (fun x => x.ok P K) && g.exm.all (fun q => decide (PySem.W.exmOne K (.ref (He.ga K q.1.1)) (.ref (He.ga K q.1.2)) = some q.2)) && g.exk.all (gloB K) &&
  g.xattr.all (fun q => xfB K (He.ga K q.1) && q.2.all fun f => decide (PySem.W.findIn K (.ref (He.ga K q.1)) f = some none)) &&
  g.xis.all (fun q => xkB K (He.ga K q.1.1) && gloB K q.1.2 && decide (PySem.W.kitOne K (.ref (He.ga K q.1.1)) (.ref (He.ga K q.1.2)) = some q.2))
abbrev AlE : Type := (He.AlD × List FnC) × Bool
def obE (g : Pg) (xs : List Xd) (P : Program) (K : PySem.W.Frag) : AlE := ((He.obsD (faOf g) (g.defs.map Df.dd) K, xs.map fun x => fnC K x.C), obxB g xs P K)
def vaE (g : Pg) (xs : List Xd) : AlE := ((He.valD (g.defs.map Df.dd), xs.map Xd.val), true)
def frK (h : Addr → Option Obj) (n : Nat) : PySem.W.Frag := He.frG h (He.asD h n ++ [cStatics])
def hookE (n : Nat) (g : Pg) (xs : List Xd) (P : Program) : PySem.W.Hook where
  α := AlE
  obs := fun s => obE g xs P (frK s.heap.get? n)
  val := fun _ => vaE g xs
  says := fun _ h => ∃ K : PySem.W.Frag, K.In h ∧ obE g xs P K = vaE g xs
  of := fun _ _ e => ⟨_, He.frG_in, e⟩
  keeps := fun _ _ _ ⟨K, hK, c⟩ k => ⟨K, PySem.W.Frag.In.keeps hK k, c⟩
theorem hookE_eq {n : Nat} {g : Pg} {xs : List Xd} {P : Program} {f : Addr → Option Obj} {s : Shared} (h : ∀ a, f a = s.heap.get? a) : obE g xs P (frK f n) = (hookE n g xs P).obs s := by
  have e : f = s.heap.get? := funext h
  rw [e] <;> rfl
/-- what the text says of a def -/
structure DfOk (d : Df) : Prop where
  sc : FnScope d.N d.ps (defScope d.st)
  bind : ∀ (kV doc pm : Value) (an : Option Addr) (cdv ct : Value) (us : List Value), us.length = d.ps.length → bindArgs (PySem.W.fnOf d.nm d.qual (defArgs d.st) (defBody d.st) (defScope d.st) .none kV doc pm an cdv ct) ⟨us, []⟩ = pure (d.ps.zip us)
theorem pg_of {g : Pg} {xs : List Xd} {P : Program} {w : World} {K : PySem.W.Frag} {h base : Heap} {mg : Str → Option Value} (X : K.In h) (G : h.Ns mainGlobals mg) (e : obE g xs P K = vaE g xs) (hd : ∀ d ∈ g.defs, DfOk d) (hx : ∀ x ∈ xs, XdOk P x)
    (he : g.exc = xs.map fun x => (x.C, x.fs)) (own : ∀ d ∈ g.defs, ∀ F, d.own = some F → OwnOk d P w K mg base (He.ga K) F) : PgOk g P w K mg base := by
  have e1 : He.SaysD (faOf g) (g.defs.map Df.dd) K := congrArg (fun z : AlE => z.1.1) e
  have e2 : (xs.map fun x => fnC K x.C) = xs.map Xd.val := congrArg (fun z : AlE => z.1.2) e
  have e3 : obxB g xs P K = true := congrArg (fun z : AlE => z.2) e
  have e2 : ∀ x ∈ xs, fnC K x.C = x.val := List.map_inj_left.mp e2
  unfold obxB at e3
  obtain ⟨e3, c6⟩ := ba e3
  obtain ⟨e3, c5⟩ := ba e3
  obtain ⟨e3, c4⟩ := ba e3
  obtain ⟨e3, c3⟩ := ba e3
  obtain ⟨c1, c2⟩ := ba e3
  have glo : ∀ x, gloB K x = true → mg x = some (.ref (He.ga K x)) := fun x q => PySem.W.mg_of X G (He.eqO_ok q)
  have fact : ∀ {f : He.Fa}, f ∈ faOf g → f.ok K = true := fun {f} hf => by
    obtain ⟨i, hi⟩ := List.getElem?_of_mem hf
    exact e1.fact i hi
  have inD : ∀ {d : Df} {f : He.Fa}, d ∈ g.defs → f ∈ (match d.at_ with
      | (x, none) => [He.Fa.glo x]
      | (C, some m) => [He.Fa.cls C, He.Fa.meth C m] ++ if m = "__init__" then [He.Fa.mkr C, He.Fa.glo C] else []) → f.ok K = true := fun {d f} hd hf => by
    refine fact ?_
    unfold faOf
    rw [List.mem_append, List.mem_append]
    exact .inl (.inl (List.mem_flatMap.mpr ⟨d, hd, hf⟩))
  refine { defs := fun d hdm => ?_, own := own, gl := fun d hdm x hx => ?_, me := fun d hdm C m hx => ?_, mkr := fun d hdm C hx => ?_, glob := fun x d hl => ?_, attr := fun C f hm => ?_, exc := fun C fs hl => ?_, exm := fun C D b hl => ?_, exk := fun C hc => ?_, xattr := fun C f hm => ?_, xis := fun C D b hl => ?_, bis := fun x hx => ?_ }
  · obtain ⟨i, hi⟩ := List.getElem?_of_mem hdm
    obtain ⟨fd, F⟩ := e1.def_ i (d := d.dd) (by rw [List.getElem?_map, hi]; rfl)
    exact ⟨fd, F, FunD.bindsN F (hd d hdm).bind, (hd d hdm).sc⟩
  · exact He.glo_ok X G (inD hdm (by rw [hx]; exact List.mem_cons_self))
  · exact ⟨He.cls_ok (inD hdm (by rw [hx]; simp)), He.meth_ok (inD hdm (by rw [hx]; simp))⟩
  · exact ⟨He.mkr_ok (inD hdm (by rw [hx]; simp)), He.glo_ok X G (inD hdm (by rw [hx]; simp))⟩
  · have := List.all_eq_true.mp c1 _ (mem_lk hl)
    dsimp only at this
    split at this
    · rename_i u hu
      obtain ⟨v, r1, r2⟩ := gvB_ok this
      exact ⟨u, v, PySem.W.mg_of X G hu, r1, r2⟩
    · cases this
  · unfold memIn at hm
    split at hm
    · rename_i fs hl
      have hm2 := mem_lk hl
      have hf : f ∈ fs := by simpa using hm
      have inA : ∀ {z : He.Fa}, z ∈ (He.Fa.cls C :: fs.map fun f => He.Fa.noat C f) → z.ok K = true := fun {z} hz => by
        refine fact ?_
        unfold faOf
        rw [List.mem_append, List.mem_append]
        exact .inl (.inr (List.mem_flatMap.mpr ⟨_, hm2, hz⟩))
      exact ⟨He.cls_ok (inA List.mem_cons_self), He.noat_ok (inA (List.mem_cons_of_mem _ (List.mem_map.mpr ⟨f, hf, rfl⟩)))⟩
    · cases hm
  · rw [he] at hl
    obtain ⟨x, hxm, hxe⟩ := List.mem_map.mp (mem_lk hl)
    cases hxe
    obtain ⟨r1, r2⟩ := exT_of X G (hx x hxm) (e2 x hxm) (List.all_eq_true.mp c2 x hxm)
    exact ⟨(hx x hxm).ne, (hx x hxm).dbg, r1, r2⟩
  · exact of_decide_eq_true (List.all_eq_true.mp c3 _ (mem_lk hl))
  · exact glo C (List.all_eq_true.mp c4 C (by simpa using hc))
  · unfold memIn at hm
    split at hm
    · rename_i fs hl
      obtain ⟨r1, r2⟩ := ba (List.all_eq_true.mp c5 _ (mem_lk hl))
      exact ⟨xfB_ok r1, of_decide_eq_true (List.all_eq_true.mp r2 f (by simpa using hm))⟩
    · cases hm
  · obtain ⟨r1, r3⟩ := ba (List.all_eq_true.mp c6 _ (mem_lk hl))
    obtain ⟨r1, r2⟩ := ba r1
    exact ⟨xkB_ok r1, glo D r2, of_decide_eq_true r3⟩
  · refine He.free_ok X G (fact ?_)
    unfold faOf
    rw [List.mem_append]
    exact .inr (List.mem_map.mpr ⟨x, hx, rfl⟩)
end E

set_option linter.all false
set_option maxRecDepth 100000
set_option maxHeartbeats 4000000
/- Evaluator E, part Z: the law's end. -/
namespace E
open PySem PySem.Spec PyProof.Rows L2
/-- what may come out of the law's def, in any world -/
def CXZ (P : Program) : CXT := fun outer H s E u s' => ∃ w, L2N.CX P w outer H s E u s'
theorem fn_any {P : Program} {w : World} {K : PySem.W.Frag} {mg : Str → Option Value} {base : Heap} {k : Nat} {f : Addr} {fd : FuncData} {ps : List Str} {sp : Sp} (F : FnOk P w K mg base (L2N.CX P w) k f fd ps sp) : FnOk P w K mg base (CXZ P) k f fd ps sp :=
  ⟨F.len, fun A outer s H args us vs Q E hr e0 hb r h => codeAny_mono (F.run A outer s H args us vs Q E hr e0 hb r h) fun q s' hq => by
    cases q with
    | error e => exact ⟨w, hq⟩
    | ok fl => cases fl <;> exact hq⟩
theorem cxz_none {P : Program} (H : Hp) (s : Shared) (e : Value) (s' : Shared) (h : CXZ P [] H s (fun _ _ _ => False) e s') : False := by
  obtain ⟨w, _, _, _, _, _, _, _, _, _, _, _, _, z⟩ := h
  exact z
/-- the law's answer by the table: True, whatever the script -/
theorem end_of {l : PySem.W.OpenLaw} {lv : Nat} {q : Program} {loose : List Str} {XP : (Str → Option Value) → Heap → Prop} {d : DefRec} {g : Pg} {xs : List Xd} {n : Nat} {dl : Df} (hn : l.most = some 63) (hdf : d.params.defaults = []) (hr : Room (lv + 1) callerA) (hnm : d.name = "law")
    (hfind : g.find ("law", none) = some dl) (hps : dl.ps = [("script" : Str)]) (hd : ∀ d ∈ g.defs, DfOk d) (hx : ∀ x ∈ xs, XdOk l.prog x) (he : g.exc = xs.map fun x => (x.C, x.fs))
    (own : ∀ (w : World) (K : PySem.W.Frag) (mg : Str → Option Value) (base : Heap), ∀ d ∈ g.defs, ∀ F, d.own = some F → OwnOk d l.prog w K mg base (He.ga K) F)
    (ans : ∀ ns : List Int, ns.length ≤ 63 → ∃ S', dl.sem (g.tab lv) [.scr ns] [] = .ok (.bl true) S') :
    PySem.W.WalkO q loose XP (hookE n g xs l.prog).says l.row.toRowW d [] (fun f vs => PySem.call f vs) := by
  refine L2.walk_ofE (n := 63) (k := lv + 1) (x := "script") (CX := CXZ l.prog) hn (by decide) hdf hr ?_ cxz_none
  intro w mg fa h Y G hmg
  obtain ⟨K, KX, c⟩ := Y
  rw [hnm] at hmg
  have O : ∀ base : Heap, K.In base → base.Ns mainGlobals mg → PgOk g l.prog w K mg base := fun base X GG => pg_of X GG c hd hx he (own w K mg base)
  have O0 := O h KX G
  obtain ⟨hdm, hat⟩ := find_at hfind
  have e1 := O0.gl dl hdm "law" hat
  rw [hmg] at e1
  cases e1
  obtain ⟨fd0, F0, B0, S0⟩ := O0.defs dl hdm
  refine ⟨K, fd0, spD K (He.ga K) (dl.sem (g.tab lv)), KX, fun s u => ?_, fun H a ns hlen hO hS => ?_, fun base X GG => ?_⟩
  · have b := FunD.bindsA (ps := ["script"]) F0 (by rw [← hps]; exact (hd dl hdm).bind) s [u] rfl
    exact b
  · obtain ⟨S', e⟩ := ans ns hlen
    refine ⟨⟨fun _ => none, [], H⟩, [.scr ns], rfl, ⟨fun n c h => ?_, fun n m c c' a h => ?_⟩, ⟨.ref a, [], rfl, ⟨a, rfl, ?_⟩, rfl⟩, ?_⟩
    · cases h
    · cases h
    · rcases hS with q | q
      · exact .inl ⟨q, fun ⟨n, c, h, _⟩ => by cases h⟩
      · exact .inr q
    · show PostR _ _ _ (dl.sem (g.tab lv) [.scr ns] []) _
      rw [e]
      intro W' v _ _ _ r
      exact r
  · obtain ⟨hT, hX⟩ := tab_ok (O base X GG) lv
    have k3 := (def_run (O base X GG) hdm F0 S0 hT hX).1
    rw [hat, hps] at k3
    exact fn_any k3
end E

set_option linter.all false
set_option maxRecDepth 100000
set_option maxHeartbeats 4000000
/- Evaluator E, part R: a def in which written texts are replaced: one token is out. -/
namespace E
open PySem PySem.Spec PyProof.Rows L2
def replD (y z : Str) (d : D) (S : Store) : Res D := match d with
  | .str x => if x.length + (x.length + 1) * z.length ≤ 16777216 then .ok (.str (Txt.replace x y z)) S else .fail
  | _ => .fail
noncomputable def evR (Γ : Gm) (n : Nat) : Nat → Expr → Ev
  | 0, _ => fun _ _ => .fail
  | k + 1, e => match e with
    | .Call (.Attribute o m apos) [.Constant (.str y) j1 p1, .Constant (.str z) j2 p2] [] pos => if m = "replace" ∧ (apos.endLine == pos.line) = true ∧ (y == z) = false ∧ isCall0 o = false then fun ρ S => (evR Γ n k o ρ S).bind (replD y z)
      else ev Γ n (.Call (.Attribute o m apos) [.Constant (.str y) j1 p1, .Constant (.str z) j2 p2] [] pos)
    | .BinOp a op b _ => fun ρ S => (evR Γ n k a ρ S).bind fun d S1 => (evR Γ n k b ρ S1).bind fun e S2 => binD op d e S2
    | e => ev Γ n e
noncomputable def stR (Γ : Gm) (n : Nat) (s : Stmt) : EvS := match s with
  | .Assign [.Name x p] (.List es q) pos => fun ρ S => (match Γ.setI x with
    | some i => if noStar es then (evL' (evR Γ n n) es ρ S).bind fun ds S1 => (if ds.length ≤ sizeLine then (newL ds S1).bind fun d S2 => .ok (.next (ρ.set i (some d))) S2 else .fail) else .fail
    | none => .fail)
  | s => stepS Γ n (exB Γ n) s
noncomputable def topR (Γ : Gm) (n : Nat) (s : Stmt) : EvS := match s with
  | .For t iter body [] _ => fun ρ S => (iterE Γ (ev Γ n) iter ρ S).bind fun p S1 => forE (tgE Γ t) (blockE (stR Γ n) body) p.2 p.1 p.1 ρ S1
  | s => stepS Γ n (exB Γ n) s
noncomputable def semR (d : Df) (T : Tab) : Sem1 := fun ds S => if ds.length = d.ps.length then outR d.m S (blockE (topR (d.gm T false) d.fu) (defBody d.st) (ds.map some ++ List.replicate (d.N.length - d.ps.length) none) S) else .fail
section
variable {X : Cx} {J : Jd} {Γ : Gm} {lv : Nat} {e : Expr} {es : List Expr} {st : Stmt} {ss : List Stmt}
theorem thnT {α : Type} {M : Model} {A : Around} {t : Sem α} {Q Q2 : α → Shared → Prop} {E : Value → Shared → Prop} {s : Shared} (h0 : 1 ≤ s.toks) (h : wpAny M A t Q E s) (k : ∀ a s', 1 ≤ s'.toks → Q a s' → Q2 a s') : wpAny M A t Q2 E s :=
  wpAny_mono (PySem.wpAny_toks h) (fun a s' q => k a s' (Nat.le_trans h0 q.1) q.2) fun _ _ q => q.2
theorem pet_by {f : Ev} (h : ∀ W ρ σ Q, Sim J.K J.ca W → EnvR J.K W ρ σ → Post J W (f ρ W.S) Q → ∃ t, PET X e t ∧ t σ W.H Q) : PET X e (Den J f) :=
  fun pins s σ H Q h0 I ⟨W, ρ, hH, sm, er, p⟩ => by subst hH; obtain ⟨t, ht, q⟩ := h W ρ σ Q sm er p; exact ht pins s σ _ Q h0 I q
theorem pat_by {f : EvL} (h : ∀ W ρ σ Q, Sim J.K J.ca W → EnvR J.K W ρ σ → PostR J W (RL J) (f ρ W.S) Q → ∃ t, PAT X es t ∧ t σ W.H Q) : PAT X es (DenL J f) :=
  fun pos pins s σ H Q h0 I ⟨W, ρ, hH, sm, er, p⟩ => by subst hH; obtain ⟨t, ht, q⟩ := h W ρ σ Q sm er p; exact ht pos pins s σ _ Q h0 I q
theorem pst_by {f : EvS} (h : ∀ W ρ σ D, Sim J.K J.ca W → EnvR J.K W ρ σ → PostR J W (RF J) (f ρ W.S) (QF D) → ∃ t, PST X st t ∧ t D σ W.H) : PST X st (DenS J f) :=
  fun pins s σ H D h0 I ⟨W, ρ, hH, sm, er, p⟩ => by subst hH; obtain ⟨t, ht, q⟩ := h W ρ σ D sm er p; exact ht pins s σ _ D h0 I q
theorem psst_by {f : EvS} (h : ∀ W ρ σ D, Sim J.K J.ca W → EnvR J.K W ρ σ → PostR J W (RF J) (f ρ W.S) (QF D) → ∃ t, PSsT X ss t ∧ t D σ W.H) : PSsT X ss (DenS J f) :=
  fun pins s σ H D h0 I ⟨W, ρ, hH, sm, er, p⟩ => by subst hH; obtain ⟨t, ht, q⟩ := h W ρ σ D sm er p; exact ht pins s σ _ D h0 I q
theorem d_evR (G : Good Γ J X lv) {n : Nat} : ∀ (k : Nat) (e : Expr), PET X e (Den J (evR Γ n k e))
  | 0, e => pet_by fun _ _ _ _ _ _ p => p.elim
  | k + 1, e => by
    unfold evR
    split
    · split
      · rename_i o m apos y j1 p1 z j2 p2 pos h
        obtain ⟨h1, h2, h3, h4⟩ := h
        subst h1
        refine pet_by fun W ρ σ Q sm er p => ⟨_, CwR.pet_replT (d_evR G (n := n) k o) h3 rfl (abase h4) h2, ?_⟩
        refine den_bind sm er p fun W1 d v e1 s1 r1 v1 p1 => ?_
        unfold replD at p1
        split at p1
        · split at p1
          · rename_i hz
            cases (show v = _ from v1)
            exact ⟨_, rfl, hz, p1.val s1 rfl⟩
          · exact p1.elim
        · exact p1.elim
      · exact CwR.PET.of ((sound n Γ J X G).1 _)
    · rename_i a op b pos
      refine pet_by fun W ρ σ Q sm er p => ⟨_, CwR.pet_op (ok_bin G.K op) (d_evR G (n := n) k a) (d_evR G (n := n) k b), ?_⟩
      refine den_bind sm er p fun W1 d v e1 s1 r1 v1 p1 => ?_
      refine den_bind s1 r1 p1 fun W2 d2 v2 e2 s2 r2 v3 p2 => ?_
      exact ⟨W2, d, d2, rfl, s2, v1.mono s1 e2, v3, p2⟩
    · exact CwR.PET.of ((sound n Γ J X G).1 _)
theorem d_evRs (G : Good Γ J X lv) {n : Nat} : ∀ {es : List Expr}, noStar es = true → PAT X es (DenL J (evL' (evR Γ n n) es))
  | [], _ => pat_by fun W ρ σ Q sm er p => ⟨_, pat_nil, p.val sm rfl⟩
  | e :: es, h => by
    obtain ⟨h1, h2⟩ := noStar_cons h
    refine pat_by fun W ρ σ Q sm er p => ⟨_, pat_cons (d_evR G (n := n) n e) (d_evRs G (n := n) h2) (not_star h1), ?_⟩
    refine den_bind sm er p fun W1 d v e1 s1 r1 v1 p1 => ?_
    refine denL_bind s1 r1 p1 fun W2 ds vs e2 s2 r2 v2 p2 => ?_
    exact p2.val s2 ⟨v, vs, rfl, v1.mono s1 e2, v2⟩
theorem pst_setT {i : Nat} {x : Str} {te : TE} {p pos : Pos} (hN : X.N.Nodup) (hi : X.N[i]? = some x) (hx : L2.Loc X.env.scope x) (he : PET X e te) (hs : swapsWith e (some (.Name x p)) pos.line X.env = pure false) (hf : X.fn x = true ∨ X.env.scope.names.lookup x = some .local) :
    PST X (.Assign [.Name x p] e pos) (tAsg te (gName i)) := fun pins s σ H D h0 I h =>
  wpAny_Assign_Name (thn (he pins s σ H _ h0 I h) fun v s1 ⟨y, H1, I1, r1, q1⟩ => store_ok I1 hN hi hx r1 (fun s2 I2 => ⟨_, H1, I2, q1⟩) hf) hs
theorem d_stR (G : Good Γ J X lv) (hst : X.stack = X.env :: X.outer) (hfr : X.env.frame = some X.env.locals) (EX : ExcOk Γ.T X.prog X.w X.K X.mg X.base J.ca lv) {n : Nat} (s : Stmt) : PST X s (DenS J (stR Γ n s)) := by
  unfold stR
  split
  · rename_i x p es q pos
    refine pst_by fun W ρ σ D sm er pp => ?_
    split at pp
    · rename_i i hi
      obtain ⟨g1, g2, g3, g4⟩ := setI_at G hi
      split at pp
      · rename_i hn
        refine ⟨_, pst_setT G.nd g2 g3 (pet_lst (d_evRs G (n := n) hn)) (sw_plain rfl) g4, ?_⟩
        refine denL_bind sm er pp fun W1 ds vs e1 s1 r1 v1 p1 => ?_
        split at p1
        · rename_i hz
          refine ⟨by rw [v1.length]; exact hz, ?_⟩
          refine post_list (Q := fun x H1 => D.nx (σ.set i (some x)) H1) s1 v1 ?_
          exact p1.bind.imp fun y H1 ⟨W2, d, h1, h2, h3, h4, h5⟩ => by
            subst h1
            exact PostR.nxt h3 ((r1.ext s1 h2).set h4) h5
        · exact p1.elim
      · exact pp.elim
    · exact pp.elim
  · exact PST.of (sound_stmt G hst hfr EX (fun ss => sound_body G hst hfr EX n ss) _)
theorem psst_block {f : Stmt → EvS} (h : ∀ s, PST X s (DenS J (f s))) : ∀ ss, PSsT X ss (DenS J (blockE f ss))
  | [] => psst_by fun W ρ σ D sm er q => ⟨_, CwR.psst_nil, PostR.nxt sm er q⟩
  | s :: ss => by
    refine psst_by fun W ρ σ D sm er q => ⟨_, psst_cons (h s) (psst_block h ss), ?_⟩
    refine ⟨W, ρ, rfl, sm, er, (show PostR J W (RF J) ((f s ρ W.S).bind fun fl S1 => match fl with
      | .next ρ1 => blockE f ss ρ1 S1
      | fl => .ok fl S1) (QF D) from q).bind.imp fun fl H2 ⟨W2, g, w1, w2, w3, w4, w5⟩ => ?_⟩
    subst w1
    cases g with
    | next ρ2 =>
      cases fl with
      | next σ3 => exact ⟨W2, ρ2, rfl, w3, w4, w5⟩
      | _ => exact w4.elim
    | cont ρ2 =>
      cases fl with
      | cont σ3 => exact PostR.val (R := RF J) (a := .cont ρ2) (b := .cont σ3) (Q := QF D) w3 w4 w5
      | _ => exact w4.elim
    | brk ρ2 =>
      cases fl with
      | brk σ3 => exact PostR.val (R := RF J) (a := .brk ρ2) (b := .brk σ3) (Q := QF D) w3 w4 w5
      | _ => exact w4.elim
    | ret d =>
      cases fl with
      | ret v => exact PostR.rtn (D := D) w3 w4 w5
      | _ => exact w4.elim
/-- for, its body with a token out -/
theorem for_tok {tg iter : Expr} {body : List Stmt} {wi : TI} {g : TG} {tb : TS} {pos : Pos} (hp : PassesOwn (model X.prog X.w) X.A X.env X.xe) (hc : X.calm = true) (hi : PI X tg iter wi) (hg : PG X tg g) (hb : PSsT X body tb) (hs : ∀ x, foldedSetIterable iter X.env x = pure x) : PST X (.For tg iter body [] pos) (tFor wi g tb) := fun pins s σ H D h0 I h => by
  refine wpAny_For (thnT h0 (hi.run pins s σ H _ I h) fun v s1 t1 h1 => thnT t1 h1 fun itv s2 t2 h2 => ?_) hs
  obtain ⟨it, fp, tn, J2, H2, e, I2, T, st2, f2, Wm, ⟨m0, w0⟩, turn⟩ := h2
  subst e
  have fpk : ∀ {G : Hp}, (∀ b ∈ fp, G b = none) → ∀ b ∈ fp, FpOk X pins G b := fun hn b hb => ⟨hn b hb, (f2 b hb).2⟩
  refine codeAny_forLoop_any (fun n s' => 1 ≤ s'.toks ∧ ∃ i σ' G, Inv X pins σ' G s' ∧ tn i s'.heap ∧ (∀ b ∈ fp, G b = none) ∧ Wm i n σ' G) ?_ m0
    ⟨t2, 0, σ, H2, I2, st2, fun b hb => (f2 b hb).1, w0⟩
  rintro n s3 ⟨t3, i, σ3, H3, I3, st3, fr3, w3⟩
  rcases turn i n σ3 H3 w3 with ⟨stop, qn⟩ | ⟨go, Nx, hNx, step⟩
  · refine wpAny_passesOwn hp (thn (T.done X rfl rfl rfl hc i pins s3 σ3 H3 X.xe I3 (fpk fr3) st3 stop) fun r s4 ⟨hr, I4⟩ => ?_)
    subst hr
    exact wpAny_execs_nil ⟨σ3, H3, I4, qn⟩
  · refine wpAny_passesOwn hp (thnT t3 (T.item X rfl rfl rfl hc i pins s3 σ3 H3 X.xe I3 (fpk fr3) st3 go) fun r s4 t4 ⟨u, hr, h4⟩ => ?_)
    subst hr
    refine wpAny_passesOwn hp (thnT t4 h4 fun _ s5 t5 ⟨x, H5, I5, r5, y5, st5, fr5⟩ => ?_)
    have Ip := I5.pinned (fpk fr5) (T.obj _ _ st5)
    refine wpAny_passesOwn hp (thnT t5 (hg.run _ s5 σ3 H5 x u _ Ip r5 (step x H5 y5)) fun _ s6 t6 ⟨σ6, H6, I6, q6⟩ => ?_)
    refine wpAny_passesOwn hp (thnT t6 (hb _ s6 σ6 H6 _ t6 I6 q6) fun f s7 t7 q7 => ?_)
    have pin7 : ∀ {σ7 : L2.St} {H7 : Hp} {b : Addr} {o : Obj}, Inv X (pins ++ pinsAt fp s5.heap) σ7 H7 s7 → b ∈ fp → s5.heap.get? b = some o → s7.heap.get? b = some o ∧ H7 b = none := fun I7 hb e =>
      let z := I7.pin _ (List.mem_append_right _ (List.mem_append_right _ (mem_pinsAt hb e)))
      ⟨z.1, z.2.1⟩
    have again : ∀ {σ7 : L2.St} {H7 : Hp}, Inv X (pins ++ pinsAt fp s5.heap) σ7 H7 s7 → Nx σ7 H7 → ∃ m, m < n ∧ 1 ≤ s7.toks ∧ ∃ i σ' G, Inv X pins σ' G s7 ∧ tn i s7.heap ∧ (∀ b ∈ fp, G b = none) ∧ Wm i m σ' G := fun {σ7 H7} I7 n7 => by
      obtain ⟨m', hm, w7⟩ := hNx σ7 H7 n7
      refine ⟨m', hm, t7, i + 1, σ7, H7, I7.unpinned, T.keep _ _ _ st5 fun b hb o e => (pin7 I7 hb e).1, fun b hb => ?_, w7⟩
      obtain ⟨o, e, _⟩ := T.obj _ _ st5 b hb
      exact (pin7 I7 hb e).2
    cases f with
    | next =>
      obtain ⟨σ7, H7, I7, n7⟩ := q7
      exact again I7 n7
    | cont =>
      obtain ⟨σ7, H7, I7, n7⟩ := q7
      exact again I7 n7
    | brk =>
      obtain ⟨σ7, H7, I7, z7⟩ := q7
      exact ⟨σ7, H7, I7.unpinned, z7⟩
    | ret v =>
      obtain ⟨x7, σ7, H7, I7, r7, z7⟩ := q7
      exact ⟨x7, σ7, H7, I7.unpinned, r7, z7⟩
theorem d_topR (G : Good Γ J X lv) (hh : Γ.hot = false) (hst : X.stack = X.env :: X.outer) (hfr : X.env.frame = some X.env.locals) (EX : ExcOk Γ.T X.prog X.w X.K X.mg X.base J.ca lv) {n : Nat} (s : Stmt) : PST X s (DenS J (topR Γ n s)) := by
  unfold topR
  split
  · rename_i t iter body pos
    refine pst_by fun W ρ σ D sm er q => ⟨_, for_tok G.own (G.calm hh) (d_iterE G (sound n Γ J X G).1) (d_tg G) (psst_block (fun s => d_stR G hst hfr EX (n := n) s) body) (folded (iter_set q) _), for_parts sm er q⟩
  · exact PST.of (sound_stmt G hst hfr EX (fun ss => sound_body G hst hfr EX n ss) _)
end
theorem own_R {d : Df} (hps : 1 ≤ d.ps.length) (hnc : ∀ y ∈ (defScope d.st).names, y.2 ≠ .cell) {P : Program} {w : World} {K : PySem.W.Frag} {mg : Str → Option Value} {base : Heap} {ca : Str → Addr} : OwnOk d P w K mg base ca (semR d) := by
  intro f fd T lv F S hT hX
  obtain ⟨oc, od, dV, kV, doc, pm, an, cdv, ct, osl, e, lk, hcd, _, _⟩ := F.ex
  subst e
  refine fn_ofT lk hcd S hnc hps (fun vs H Q E h => ?_) fun A outer s H vs Q E hr hsp => ?_
  · obtain ⟨W, ds, _, _, r, p⟩ := h
    unfold semR at p
    split at p
    · rename_i hl
      rw [r.length]; exact hl
    · exact p.elim
  · obtain ⟨W, ds, hH, sm, r, p⟩ := hsp
    subst hH
    unfold semR at p
    split at p
    · rename_i hl
      have G : Good (d.gm T false) ⟨K, ca, E⟩ (cxOf (L2N.CX P w) P w K mg base d.N d.qual (defScope d.st) f cdv A outer s W.H E) lv := {
        K := rfl
        N := rfl
        nd := S.nd
        sc := rfl
        kind := S.kind
        fn := rfl
        calm := fun _ => rfl
        tab := hT
        room := fun _ => hr
        hotc := fun h => nomatch h
        pass := L2N.passes_call (L2N.takes_of (E := E) rfl rfl rfl rfl) (fun _ _ _ _ h => h)
        own := passes_of rfl
        takes := L2N.takes_of rfl rfl rfl rfl }
      rw [← hl] at p
      refine ⟨_, psst_block (fun s => d_topR G rfl rfl rfl hX (n := d.fu) s) _, W, _, rfl, sm, start_env r, ?_⟩
      cases hm : d.m with
      | raw => rw [hm] at p; exact ok_raw p
      | cut => rw [hm] at p; exact ok_cut sm p
    · exact p.elim
end E

set_option linter.all false
set_option maxRecDepth 100000
set_option maxHeartbeats 4000000
/- Evaluator E, part T: the words in which an unfolded meaning is printed. -/
namespace E
open PySem PySem.Spec PyProof.Rows L2
/-! ### parts of a text -/
def at_ (ss : List Stmt) (i : Nat) : Stmt := ss.getD i (.Pass ⟨0, 0, 0, 0⟩)
def ifA : Stmt → List Stmt
  | .If _ a _ _ => a
  | _ => []
def ifB : Stmt → List Stmt
  | .If _ _ b _ => b
  | _ => []
def forB : Stmt → List Stmt
  | .For _ _ b _ _ => b
  | _ => []
def whB : Stmt → List Stmt
  | .While _ b _ _ => b
  | _ => []
/-! ### words -/
def seqE (r : Res Fl) (k : EvS) : Res Fl := r.bind fun fl S1 => match fl with
  | .next ρ1 => k ρ1 S1
  | fl => .ok fl S1
def asB (d : D) (S : Store) : Res Bool := match d with
  | .bl b => .ok b S
  | _ => .fail
def truR (r : Res D) : Res Bool := r.bind fun d S1 => match truD S1 d with
  | some b => .ok b S1
  | none => .fail
def andR (r : Res D) (k : Store → Res D) : Res D := r.bind fun d S1 => match truD S1 d with
  | some true => k S1
  | some false => .ok d S1
  | none => .fail
def orR (r : Res D) (k : Store → Res D) : Res D := r.bind fun d S1 => match truD S1 d with
  | some false => k S1
  | some true => .ok d S1
  | none => .fail
def andB (r : Res Bool) (k : Store → Res Bool) : Res Bool := r.bind fun b S1 => if b then k S1 else .ok false S1
def orB (r : Res Bool) (k : Store → Res Bool) : Res Bool := r.bind fun b S1 => if b then .ok true S1 else k S1
def tupR (ds : List D) (S : Store) : Res D := if ds.length ≤ sizeLine then .ok (.tup ds) S else .fail
def lstR (ds : List D) (S : Store) : Res D := if ds.length ≤ sizeLine then newL ds S else .fail
def consR (r : Res D) (k : Store → Res (List D)) : Res (List D) := r.bind fun d S1 => (k S1).bind fun ds S2 => .ok (d :: ds) S2
def optR (d : D) (S : Store) : Res (Option Int) := match d with
  | .int i => .ok (some i) S
  | _ => .fail
def mK0 (T : Tab) (m : Str) (args : Store → Res (List D)) (d : D) (S1 : Store) : Res D := match insL S1 d with
  | some p => (match T.meth p.1 m, p.2.lookup m with
    | some f, none => (args S1).bind fun ds S2 => f (d :: ds) S2
    | _, _ => .fail)
  | none => (match bm0F m with
    | some b => b.f d [] S1
    | none => .fail)
def mK1 (T : Tab) (m : Str) (args : Store → Res (List D)) (d : D) (S1 : Store) : Res D := match insL S1 d with
  | some p => (match T.meth p.1 m, p.2.lookup m with
    | some f, none => (args S1).bind fun ds S2 => f (d :: ds) S2
    | _, _ => .fail)
  | none => (match bm1F m with
    | some b => if bmOk b S1 d then (args S1).bind fun ds S2 => b.f d ds S2 else .fail
    | none => .fail)
def mKn (T : Tab) (m : Str) (args : Store → Res (List D)) (d : D) (S1 : Store) : Res D := match insL S1 d with
  | some p => (match T.meth p.1 m, p.2.lookup m with
    | some f, none => (args S1).bind fun ds S2 => f (d :: ds) S2
    | _, _ => .fail)
  | none => .fail
noncomputable def compR (tg : D → Option EnvD) (tests : EvB) (elt : Ev) (p : List D × Src) (S1 : Store) : Res D :=
  (compL tg tests elt p.2 p.1 S1.length p.1 (S1 ++ [some (.lst [])])).bind fun _ S2 => .ok (.ref S1.length) S2
def rng1 (d : D) (S : Store) : Res (List D × Src) := match d with
  | .int n => if big62 n then .ok (rngD 0 n.toNat, .still) S else .fail
  | _ => .fail
def rng2 (d e : D) (S : Store) : Res (List D × Src) := match d, e with
  | .int m, .int n => if big62 m ∧ big62 n then .ok (rngD m (n - m).toNat, .still) S else .fail
  | _, _ => .fail
def putR (T : Tab) (f : Str) (o d : D) (ρ : EnvD) (S : Store) : Res Fl := match putE T f o d S with
  | some S3 => .ok (.next ρ) S3
  | none => .fail
def setR (o i d : D) (ρ : EnvD) (S : Store) : Res Fl := match setIxE o i d S with
  | some S4 => .ok (.next ρ) S4
  | none => .fail
def setsN : List Nat → List D → EnvD → Option EnvD
  | [], [], ρ => some ρ
  | i :: is, d :: ds, ρ => setsN is ds (ρ.set i (some d))
  | _, _, _ => none
def tupT (is : List Nat) (d : D) (ρ : EnvD) : Option EnvD := match d with
  | .tup ds => setsN is ds ρ
  | _ => none
def tupS (is : List Nat) (d : D) (ρ : EnvD) (S : Store) : Res Fl := match d with
  | .tup ds => (match setsN is ds ρ with
    | some ρ1 => .ok (.next ρ1) S
    | none => .fail)
  | _ => .fail
def excR (C : Str) (fs : List Str) (ds : List D) (S : Store) : Res Fl := if ds.length = fs.length then .exc C (fs.zip ds) S else .fail
section
variable {α β γ : Type} {S : Store}
theorem bind_ok (a : α) (S : Store) (k : α → Store → Res β) : (Res.ok a S).bind k = k a S := rfl
theorem bind_exc (c : Str) (fs : List (Str × D)) (S : Store) (k : α → Store → Res β) : (Res.exc c fs S : Res α).bind k = .exc c fs S := rfl
theorem bind_fail (k : α → Store → Res β) : (Res.fail : Res α).bind k = .fail := rfl
theorem bind_assoc (r : Res α) (k : α → Store → Res β) (l : β → Store → Res γ) : (r.bind k).bind l = r.bind fun a S => (k a S).bind l := by cases r <;> rfl
theorem bind_ite (c : Prop) [Decidable c] (a b : Res α) (k : α → Store → Res β) : (if c then a else b).bind k = if c then a.bind k else b.bind k := by split <;> rfl
theorem seq_next (ρ : EnvD) (S : Store) (k : EvS) : seqE (.ok (.next ρ) S) k = k ρ S := rfl
theorem seq_ret (d : D) (S : Store) (k : EvS) : seqE (.ok (.ret d) S) k = .ok (.ret d) S := rfl
theorem seq_brk (ρ : EnvD) (S : Store) (k : EvS) : seqE (.ok (.brk ρ) S) k = .ok (.brk ρ) S := rfl
theorem seq_cont (ρ : EnvD) (S : Store) (k : EvS) : seqE (.ok (.cont ρ) S) k = .ok (.cont ρ) S := rfl
theorem seq_exc (c : Str) (fs : List (Str × D)) (S : Store) (k : EvS) : seqE (.exc c fs S) k = .exc c fs S := rfl
theorem seq_ite (c : Prop) [Decidable c] (a b : Res Fl) (k : EvS) : seqE (if c then a else b) k = if c then seqE a k else seqE b k := by split <;> rfl
theorem get_at (d : D) (ρ : EnvD) (S : Store) : getE (some d :: ρ) 0 S = .ok d S := rfl
theorem get_up (o : Option D) (ρ : EnvD) (i : Nat) (S : Store) : getE (o :: ρ) (i + 1) S = getE ρ i S := rfl
end
end E

set_option linter.all false
set_option maxRecDepth 100000
set_option maxHeartbeats 4000000
/- Evaluator E, part U: lemmas to reckon an unfolded meaning with. -/
namespace E
open PySem PySem.Spec PyProof.Rows L2
theorem forE_nil (tg : D → EnvD → Option EnvD) (b : EvS) (all : List D) (ρ : EnvD) (S : Store) : forE tg b .still all [] ρ S = .ok (.next ρ) S := by
  unfold forE
  exact ifc_pos trivial
theorem forE_cons (tg : D → EnvD → Option EnvD) (b : EvS) (all : List D) (x : D) (r : List D) (ρ : EnvD) (S : Store) : forE tg b .still all (x :: r) ρ S = (match tg x ρ with
    | some ρ1 => (b ρ1 S).bind fun fl S1 => (match fl with
      | .next ρ2 => forE tg b .still all r ρ2 S1
      | .cont ρ2 => forE tg b .still all r ρ2 S1
      | .brk ρ2 => .ok (.next ρ2) S1
      | .ret d => .ok (.ret d) S1)
    | none => .fail) := by
  conv => lhs; unfold forE
  exact ifc_pos trivial
theorem forE_nilC (tg : D → EnvD → Option EnvD) (b : EvS) (all : List D) (m : Nat) (ρ : EnvD) (S : Store) (h : cellL S m = some all) : forE tg b (.cell m) all [] ρ S = .ok (.next ρ) S := by
  unfold forE
  exact ifc_pos h
theorem forE_consC (tg : D → EnvD → Option EnvD) (b : EvS) (all : List D) (m : Nat) (x : D) (r : List D) (ρ : EnvD) (S : Store) (h : cellL S m = some all) : forE tg b (.cell m) all (x :: r) ρ S = (match tg x ρ with
    | some ρ1 => (b ρ1 S).bind fun fl S1 => (match fl with
      | .next ρ2 => forE tg b (.cell m) all r ρ2 S1
      | .cont ρ2 => forE tg b (.cell m) all r ρ2 S1
      | .brk ρ2 => .ok (.next ρ2) S1
      | .ret d => .ok (.ret d) S1)
    | none => .fail) := by
  conv => lhs; unfold forE
  exact ifc_pos h
/-- a list that the comprehension fills: acc stands in the new cell -/
theorem comp_nil (tg : D → Option EnvD) (ts : EvB) (el : Ev) (all : List D) (n : Nat) (S : Store) : compL tg ts el .still all n [] S = .ok () S := by
  unfold compL
  exact ifc_pos trivial
theorem comp_cons (tg : D → Option EnvD) (ts : EvB) (el : Ev) (all : List D) (n : Nat) (x : D) (r : List D) (S : Store) : compL tg ts el .still all n (x :: r) S = (match tg x with
    | some ρ1 => (match ts ρ1 S with
      | .ok true S1 => (match el ρ1 S1 with
        | .ok d S2 => (match cellL S2 n with
          | some acc => if acc.length < sizeLine then compL tg ts el .still all n r (S2.set n (some (.lst (acc ++ [d])))) else .fail
          | none => .fail)
        | _ => .fail)
      | .ok false S1 => compL tg ts el .still all n r S1
      | _ => .fail)
    | none => .fail) := by
  conv => lhs; unfold compL
  exact ifc_pos trivial
theorem cell_end (S : Store) (c : List D) : cellL (S ++ [some (.lst c)]) S.length = some c := by
  unfold cellL
  rw [List.getElem?_append_right (Nat.le_refl _), Nat.sub_self]
  rfl
theorem set_end (S : Store) (c d : Option Cell) : (S ++ [c]).set S.length d = S ++ [d] := by
  rw [List.set_append_right _ _ (Nat.le_refl _), Nat.sub_self]
  rfl
/-! ### leaving a def -/
theorem kept_app (S G : Store) : Kept S (S ++ G) := ⟨by simp, fun n h => .inl (by rw [List.getElem?_append_left h])⟩
theorem fr_closed {g : Nat → Option D} {d : D} (h : clD 0 d = true) : frW g d = some d := frW_id (b := 0) (fun n h => absurd h (Nat.not_lt_zero n)) h
theorem out_closed {S S1 : Store} {d : D} (h : clD 0 d = true) : outD S S1 d = .ok d (S1.take S.length) := by
  have e := fr_closed (g := frC S1 S.length S1.length 6) h
  have k : ∀ x : D, frW (frC S1 S.length S1.length 6) x = some x → (match frW (frC S1 S.length S1.length 6) x with
    | some d' => Res.ok d' (S1.take S.length)
    | none => .fail) = .ok x (S1.take S.length) := fun x hx => by rw [hx]
  cases d with
  | ref n => unfold clD at h; simp at h
  | _ => exact k _ e
theorem cut_app {S G : Store} {d : D} (h : clD 0 d = true) : cutR S (.ok (.ret d) (S ++ G)) = .ok d S := by
  unfold cutR
  show ifc (Kept S (S ++ G)) (outD S (S ++ G) d) .fail = _
  rw [ifc_pos (kept_app S G), out_closed h, List.take_append_of_le_length (Nat.le_refl _), List.take_length]
theorem cut_same {S : Store} {d : D} (h : clD 0 d = true) : cutR S (.ok (.ret d) S) = .ok d S := by
  have := cut_app (S := S) (G := []) h
  rwa [List.append_nil] at this
theorem cut_none {S : Store} {ρ : EnvD} : cutR S (.ok (.next ρ) S) = .ok .non S := by
  unfold cutR
  show ifc (Kept S S) (Res.ok D.non (S.take S.length)) Res.fail = _
  rw [ifc_pos ⟨Nat.le_refl _, fun n _ => .inl rfl⟩, List.take_length]
/-- one old cell is written -/
theorem kept_set {S G : Store} {n : Nat} {c : Cell} (hc : clC S.length c = true) : Kept S (S.set n (some c) ++ G) := by
  refine ⟨by simp, fun m h => ?_⟩
  rw [List.getElem?_append_left (by simpa using h)]
  by_cases e : m = n
  · subst e
    refine .inr fun c' q => ?_
    rw [List.getElem?_set_self h] at q
    cases q
    exact hc
  · exact .inl (List.getElem?_set_ne (Ne.symm e))
theorem cut_set {S G : Store} {n : Nat} {c : Cell} {d : D} (hc : clC S.length c = true) (h : clD 0 d = true) : cutR S (.ok (.ret d) (S.set n (some c) ++ G)) = .ok d (S.set n (some c)) := by
  unfold cutR
  show ifc (Kept S (S.set n (some c) ++ G)) (outD S (S.set n (some c) ++ G) d) .fail = _
  rw [ifc_pos (kept_set hc), out_closed h, List.take_append_of_le_length (by simp), show S.length = (S.set n (some c)).length by simp, List.take_length]
theorem cut_setN {S G : Store} {n : Nat} {c : Cell} {ρ : EnvD} (hc : clC S.length c = true) : cutR S (.ok (.next ρ) (S.set n (some c) ++ G)) = .ok .non (S.set n (some c)) := by
  unfold cutR
  show ifc (Kept S (S.set n (some c) ++ G)) (Res.ok D.non ((S.set n (some c) ++ G).take S.length)) Res.fail = _
  rw [ifc_pos (kept_set hc), List.take_append_of_le_length (by simp), show S.length = (S.set n (some c)).length by simp, List.take_length]
/-- a new list is given -/
theorem cut_list {S G : Store} {ds : List D} {m : Nat} (hm : S.length ≤ m) (hc : cellL (S ++ G) m = some ds) (h : clDs 0 ds = true) : cutR S (.ok (.ret (.ref m)) (S ++ G)) = .ok (.ref S.length) (S ++ [some (.lst ds)]) := by
  unfold cutR
  show ifc (Kept S (S ++ G)) (outD S (S ++ G) (.ref m)) .fail = _
  rw [ifc_pos (kept_app S G)]
  show (if m < S.length then Res.ok (D.ref m) ((S ++ G).take S.length) else (match cellL (S ++ G) m with
    | some ds => (match frWs (frC (S ++ G) S.length m 6) ds with
      | some ds' => Res.ok (D.ref S.length) ((S ++ G).take S.length ++ [some (Cell.lst ds')])
      | none => .fail)
    | none => .fail)) = _
  rw [if_neg (by omega), hc]
  show (match frWs (frC (S ++ G) S.length m 6) ds with
    | some ds' => Res.ok (D.ref S.length) ((S ++ G).take S.length ++ [some (Cell.lst ds')])
    | none => .fail) = _
  rw [frWs_id (b := 0) (fun n h => absurd h (Nat.not_lt_zero n)) h, List.take_append_of_le_length (Nat.le_refl _), List.take_length]
end E
namespace E
open PySem PySem.Spec PyProof.Rows L2
section
variable {S : Store} {m : Nat} {ds : List D}
theorem len_c (h : cellL S m = some ds) : lenD [.ref m] S = .ok (.int ds.length) S := by
  show (match E.listOf S (.ref m) with
    | some ds => Res.ok (D.int ds.length) S
    | none => .fail) = _
  rw [show E.listOf S (.ref m) = some ds from h]
theorem len_t : lenD [.tup ds] S = .ok (.int ds.length) S := rfl
theorem ix_t (i : Int) : ixD (.tup ds) (.int i) S = (match atI ds i with
  | some x => .ok x S
  | none => .fail) := rfl
theorem ix_c (i : Int) (h : cellL S m = some ds) : ixD (.ref m) (.int i) S = (match atI ds i with
  | some x => .ok x S
  | none => .fail) := by
  show (match (E.listOf S (.ref m)).bind (fun ds => atI ds i) with
    | some x => Res.ok x S
    | none => .fail) = _
  rw [show E.listOf S (.ref m) = some ds from h]
  rfl
theorem pop_c (h : cellL S m = some ds) : popM (.ref m) [] S = (match ds[ds.length - 1]? with
  | some x => .ok x (S.set m (some (.lst ds.dropLast)))
  | none => .fail) := by
  show (match cellL S m with
    | some ds => (match ds[ds.length - 1]? with
      | some x => Res.ok x (S.set m (some (Cell.lst ds.dropLast)))
      | none => .fail)
    | none => .fail) = _
  rw [h]
theorem app_c (e : D) (h : cellL S m = some ds) (hl : ds.length < sizeLine) : appendM (.ref m) [e] S = .ok .non (S.set m (some (.lst (ds ++ [e])))) := by
  show (match cellL S m with
    | some ds => if ds.length < sizeLine then Res.ok D.non (S.set m (some (Cell.lst (ds ++ [e])))) else .fail
    | none => .fail) = _
  rw [h]
  exact if_pos hl
theorem rev_c (h : cellL S m = some ds) : reverseM (.ref m) [] S = .ok .non (S.set m (some (.lst ds.reverse))) := by
  show (match cellL S m with
    | some ds => Res.ok D.non (S.set m (some (Cell.lst ds.reverse)))
    | none => .fail) = _
  rw [h]
theorem ins_none (h : cellL S m = some ds) : insL S (.ref m) = none := by
  show cellI S m = none
  unfold cellL at h
  unfold cellI
  split at h
  · rename_i e
    rw [e]
  · cases h
theorem mk0_c (T : Tab) (x : Str) (a : Store → Res (List D)) (h : cellL S m = some ds) : mK0 T x a (.ref m) S = (match bm0F x with
    | some b => b.f (.ref m) [] S
    | none => .fail) := by
  unfold mK0
  rw [ins_none h]
  try rfl
theorem mk1_c (T : Tab) (x : Str) (a : Store → Res (List D)) (h : cellL S m = some ds) : mK1 T x a (.ref m) S = (match bm1F x with
    | some b => if bmOk b S (.ref m) then (a S).bind fun ds S2 => b.f (.ref m) ds S2 else .fail
    | none => .fail) := by
  unfold mK1
  rw [ins_none h]
  try rfl
theorem cell_set {c : List D} (h : cellL S m = some ds) : cellL (S.set m (some (.lst c))) m = some c := by
  unfold cellL at h ⊢
  split at h
  · rename_i e
    rw [List.getElem?_set_self (List.getElem?_eq_some_iff.mp e).1]
  · cases h
theorem cell_ne {c : Option Cell} {n : Nat} (hn : n ≠ m) : cellL (S.set m c) n = cellL S n := by
  unfold cellL
  rw [List.getElem?_set_ne (Ne.symm hn)]
theorem cell_app {G : Store} (h : cellL S m = some ds) : cellL (S ++ G) m = some ds := by
  unfold cellL at h ⊢
  split at h
  · rename_i e
    rw [List.getElem?_append_left (List.getElem?_eq_some_iff.mp e).1, e]
    exact h
  · cases h
theorem cell_lt (h : cellL S m = some ds) : m < S.length := by
  unfold cellL at h
  split at h
  · rename_i e
    exact (List.getElem?_eq_some_iff.mp e).1
  · cases h
theorem cell_at (h : cellL S m = some ds) : S[m]? = some (some (.lst ds)) := by
  unfold cellL at h
  split at h
  · rename_i e
    cases h
    exact e
  · cases h
theorem set_id (h : cellL S m = some ds) : S.set m (some (.lst ds)) = S := by
  have e := cell_at h
  obtain ⟨hl, hv⟩ := List.getElem?_eq_some_iff.mp e
  rw [← hv]
  exact List.set_getElem_self hl
end
theorem eq_int (i j : Int) (S : Store) : cmpD .Eq (.int i) (.int j) S = .ok (.bl (decide (i = j))) S := rfl
theorem ne_int (i j : Int) (S : Store) : cmpD .NotEq (.int i) (.int j) S = .ok (.bl (!decide (i = j))) S := rfl
theorem eq_str (i j : Str) (S : Store) : cmpD .Eq (.str i) (.str j) S = .ok (.bl (decide (i = j))) S := rfl
theorem ne_str (i j : Str) (S : Store) : cmpD .NotEq (.str i) (.str j) S = .ok (.bl (!decide (i = j))) S := rfl
theorem lt_int (i j : Int) (S : Store) : cmpD .Lt (.int i) (.int j) S = .ok (.bl (decide (i < j))) S := (if_pos (c := cTrue i j) (e := Res.fail) trivial :)
theorem le_int (i j : Int) (S : Store) : cmpD .LtE (.int i) (.int j) S = .ok (.bl (decide (i ≤ j))) S := (if_pos (c := cTrue i j) (e := Res.fail) trivial :)
theorem gt_int (i j : Int) (S : Store) : cmpD .Gt (.int i) (.int j) S = .ok (.bl (decide (j < i))) S := (if_pos (c := cTrue i j) (e := Res.fail) trivial :)
theorem ge_int (i j : Int) (S : Store) : cmpD .GtE (.int i) (.int j) S = .ok (.bl (decide (j ≤ i))) S := (if_pos (c := cTrue i j) (e := Res.fail) trivial :)
theorem add_int (i j : Int) (S : Store) : binD .Add (.int i) (.int j) S = .ok (.int (i + j)) S := rfl
theorem sub_int (i j : Int) (S : Store) : binD .Sub (.int i) (.int j) S = .ok (.int (i - j)) S := (if_pos (c := cTrue i j) (e := Res.fail) trivial :)
theorem mul_int (i j : Int) (h : CMul i j) (S : Store) : binD .Mult (.int i) (.int j) S = .ok (.int (i * j)) S := if_pos h
theorem mod_int (i j : Int) (h : j ≠ 0) (S : Store) : binD .Mod (.int i) (.int j) S = .ok (.int (i.fmod j)) S := if_pos h
theorem div_int (i j : Int) (h : CDivN i j) (S : Store) : binD .FloorDiv (.int i) (.int j) S = .ok (.int (i.fdiv j)) S := if_pos h
theorem add_str (a b : Str) (h : a.length + b.length ≤ sizeLine) (S : Store) : binD .Add (.str a) (.str b) S = .ok (.str (a ++ b)) S := if_pos h
theorem asB_bl (b : Bool) (S : Store) : asB (.bl b) S = .ok b S := rfl
end E
namespace E
open PySem (Str)
/-- a loop by what stays true -/
theorem for_ok {tg : D → EnvD → Option EnvD} {b : EvS} {all : List D} (P : EnvD → Store → Prop) : ∀ (xs : List D) (ρ : EnvD) (S : Store), (∀ x ∈ xs, ∀ ρ S, P ρ S → ∃ ρ1 ρ2 S2, tg x ρ = some ρ1 ∧ b ρ1 S = .ok (.next ρ2) S2 ∧ P ρ2 S2) → P ρ S →
    ∃ ρ' S', forE tg b .still all xs ρ S = .ok (.next ρ') S' ∧ P ρ' S'
  | [], ρ, S, _, h => ⟨ρ, S, forE_nil .., h⟩
  | x :: xs, ρ, S, hs, h => by
    obtain ⟨ρ1, ρ2, S2, h1, h2, h3⟩ := hs x List.mem_cons_self ρ S h
    obtain ⟨ρ', S', h4, h5⟩ := for_ok P xs ρ2 S2 (fun y hy => hs y (List.mem_cons_of_mem _ hy)) h3
    refine ⟨ρ', S', ?_, h5⟩
    rw [forE_cons, h1]
    show (b ρ1 S).bind _ = _
    rw [h2]
    exact h4
theorem rngD_mem {lo : Int} {n : Nat} {x : D} (h : x ∈ rngD lo n) : ∃ i : Nat, i < n ∧ x = .int (lo + i) := by
  unfold rngD at h
  obtain ⟨i, h1, h2⟩ := List.mem_map.mp h
  exact ⟨i, List.mem_range.mp h1, h2.symm⟩
end E
namespace E
theorem at_nat {α : Type} {xs : List α} {k : Nat} (h : k < xs.length) : L2.atI xs (k : Int) = some xs[k] := by
  unfold L2.atI L2.ixN
  rw [if_pos (by omega), if_pos (by omega)]
  show xs[(k : Int).toNat]? = _
  rw [Int.toNat_natCast, List.getElem?_eq_getElem h]
/-- an index reduced by the length -/
theorem at_mod {α : Type} {xs : List α} (z : Int) (h : xs ≠ []) : ∃ (k : Nat) (hk : k < xs.length), z.fmod xs.length = k ∧ L2.atI xs (z.fmod xs.length) = some xs[k] := by
  have hp : (0 : Int) < xs.length := by
    have := List.length_pos_iff.mpr h
    omega
  have h1 := Int.fmod_nonneg_of_pos z hp
  have h2 := Int.fmod_lt_of_pos z hp
  obtain ⟨k, hk⟩ : ∃ k : Nat, z.fmod xs.length = k := ⟨(z.fmod xs.length).toNat, by omega⟩
  have hlt : k < xs.length := by omega
  exact ⟨k, hlt, hk, by rw [hk]; exact at_nat hlt⟩
end E
namespace E
theorem for_okN {tg : D → EnvD → Option EnvD} {b : EvS} {all : List D} (P : Nat → EnvD → Store → Prop) : ∀ (xs : List D) (k : Nat) (ρ : EnvD) (S : Store),
    (∀ x ∈ xs, ∀ i ρ S, i < k + xs.length → P i ρ S → ∃ ρ1 ρ2 S2, tg x ρ = some ρ1 ∧ b ρ1 S = .ok (.next ρ2) S2 ∧ P (i + 1) ρ2 S2) → P k ρ S → ∃ ρ' S', forE tg b .still all xs ρ S = .ok (.next ρ') S' ∧ P (k + xs.length) ρ' S'
  | [], k, ρ, S, _, h => ⟨ρ, S, forE_nil .., h⟩
  | x :: xs, k, ρ, S, hs, h => by
    obtain ⟨ρ1, ρ2, S2, h1, h2, h3⟩ := hs x List.mem_cons_self k ρ S (by simp) h
    obtain ⟨ρ', S', h4, h5⟩ := for_okN P xs (k + 1) ρ2 S2 (fun y hy i ρ S hi => hs y (List.mem_cons_of_mem _ hy) i ρ S (by simp only [List.length_cons]; omega)) h3
    refine ⟨ρ', S', ?_, by rw [List.length_cons]; rwa [show k + (xs.length + 1) = k + 1 + xs.length by omega]⟩
    rw [forE_cons, h1]
    show (b ρ1 S).bind _ = _
    rw [h2]
    exact h4
theorem rngD_len (lo : Int) (n : Nat) : (rngD lo n).length = n := by simp [rngD]
theorem mk1_app (T : Tab) (a : Store → Res (List D)) {S : Store} {m : Nat} {ds : List D} (h : cellL S m = some ds) : mK1 T "append" a (.ref m) S = (a S).bind fun es S2 => appendM (.ref m) es S2 := by
  rw [mk1_c T _ a h]
  have : bm1F "append" = some .append := by rfl
  rw [this]
  show (if (cellL S m).isSome = true then _ else _) = _
  rw [h]
  rfl
theorem mk0_rev (T : Tab) (a : Store → Res (List D)) {S : Store} {m : Nat} {ds : List D} (h : cellL S m = some ds) : mK0 T "reverse" a (.ref m) S = reverseM (.ref m) [] S := by
  rw [mk0_c T _ a h]
  rfl
theorem lst_R (ds : List D) (S : Store) (h : ds.length ≤ PySem.sizeLine) : lstR ds S = .ok (.ref S.length) (S ++ [some (.lst ds)]) := if_pos h
theorem tup_R (ds : List D) (S : Store) (h : ds.length ≤ PySem.sizeLine) : tupR ds S = .ok (.tup ds) S := if_pos h
theorem rng_1 (n : Nat) (S : Store) (h : n < 2 ^ 62) : rng1 (.int n) S = .ok (rngD 0 n, .still) S := by
  show (if big62 (n : Int) then Res.ok (rngD 0 (n : Int).toNat, Src.still) S else .fail) = _
  rw [if_pos (by unfold big62; omega)]
  simp
end E
namespace E
theorem tup0 (S : Store) : tupR [] S = .ok (.tup []) S := tup_R _ _ (Nat.zero_le _)
theorem tup1 (a : D) (S : Store) : tupR [a] S = .ok (.tup [a]) S := tup_R _ _ (by rw [PySem.sizeLine_eq]; simp)
theorem tup2 (a b : D) (S : Store) : tupR [a, b] S = .ok (.tup [a, b]) S := tup_R _ _ (by rw [PySem.sizeLine_eq]; simp)
theorem tup3 (a b c : D) (S : Store) : tupR [a, b, c] S = .ok (.tup [a, b, c]) S := tup_R _ _ (by rw [PySem.sizeLine_eq]; simp)
theorem tup4 (a b c d : D) (S : Store) : tupR [a, b, c, d] S = .ok (.tup [a, b, c, d]) S := tup_R _ _ (by rw [PySem.sizeLine_eq]; simp)
theorem at_0 {α : Type} (a : α) (l : List α) : L2.atI (a :: l) 0 = some a := at_nat (xs := a :: l) (k := 0) (by simp)
theorem at_1 {α : Type} (a b : α) (l : List α) : L2.atI (a :: b :: l) 1 = some b := at_nat (xs := a :: b :: l) (k := 1) (by simp)
theorem at_2 {α : Type} (a b c : α) (l : List α) : L2.atI (a :: b :: c :: l) 2 = some c := at_nat (xs := a :: b :: c :: l) (k := 2) (by simp)
end E
namespace E
theorem comp_ok {tg : D → Option EnvD} {el : Ev} {all : List D} {n : Nat} (P : Nat → List D → Store → Prop) : ∀ (xs : List D) (k : Nat) (acc : List D) (S : Store),
    (∀ x ∈ xs, ∀ i acc S, i < k + xs.length → P i acc S → ∃ ρ1 d S2, tg x = some ρ1 ∧ el ρ1 S = .ok d S2 ∧ cellL S2 n = some acc ∧ acc.length < PySem.sizeLine ∧ P (i + 1) (acc ++ [d]) (S2.set n (some (.lst (acc ++ [d]))))) → P k acc S →
    ∃ acc' S', compL tg (fun _ S => .ok true S) el .still all n xs S = .ok () S' ∧ P (k + xs.length) acc' S'
  | [], k, acc, S, _, h => ⟨acc, S, comp_nil .., h⟩
  | x :: xs, k, acc, S, hs, h => by
    obtain ⟨ρ1, d, S2, h1, h2, h3, h4, h5⟩ := hs x List.mem_cons_self k acc S (by simp) h
    obtain ⟨acc', S', h6, h7⟩ := comp_ok P xs (k + 1) (acc ++ [d]) _ (fun y hy i acc S hi => hs y (List.mem_cons_of_mem _ hy) i acc S (by simp only [List.length_cons]; omega)) h5
    refine ⟨acc', S', ?_, by rw [List.length_cons]; rwa [show k + (xs.length + 1) = k + 1 + xs.length by omega]⟩
    rw [comp_cons, h1]
    show (match el ρ1 S with
      | .ok d S2 => (match cellL S2 n with
        | some acc => if acc.length < PySem.sizeLine then compL tg (fun _ S => .ok true S) el .still all n xs (S2.set n (some (.lst (acc ++ [d])))) else .fail
        | none => .fail)
      | _ => .fail) = _
    rw [h2]
    show (match cellL S2 n with
        | some acc => if acc.length < PySem.sizeLine then compL tg (fun _ S => .ok true S) el .still all n xs (S2.set n (some (.lst (acc ++ [d])))) else .fail
        | none => .fail) = _
    rw [h3]
    show (if acc.length < PySem.sizeLine then compL tg (fun _ S => .ok true S) el .still all n xs (S2.set n (some (.lst (acc ++ [d])))) else .fail) = _
    rw [if_pos h4, h6]
end E

set_option linter.all false
set_option maxRecDepth 100000
set_option maxHeartbeats 4000000
/- Evaluator E, part V: words for a try. -/
namespace E
open PySem PySem.Spec PyProof.Rows L2
def tryM (r : Res Fl) (h : Str → List (Str × D) → Store → Res Fl) : Res Fl := match r with
  | .exc C fs S => h C fs S
  | r => r
def xmR (T : Tab) (C D : Str) (fs : List (Str × E.D)) (S : Store) (k : Res Fl) : Res Fl := match T.exm C D with
  | some true => k
  | some false => .exc C fs S
  | none => .fail
def xisR (T : Tab) (C C2 : Str) (S : Store) : Res D := match T.xis C C2 with
  | some b => .ok (.bl b) S
  | none => .fail
def xattrR (T : Tab) (C : Str) (fs : List (Str × D)) (f : Str) (S : Store) : Res D := if T.xattr C f then (match fs.lookup f with
  | some d => .ok d S
  | none => .fail) else .fail
end E

set_option linter.all false
set_option maxRecDepth 100000
set_option maxHeartbeats 4000000
/- Evaluator E, part W: a list display with replaced texts. -/
namespace E
open PySem PySem.Spec PyProof.Rows L2
def setL (i : Nat) (ρ : EnvD) (ds : List D) (S1 : Store) : Res Fl := if ds.length ≤ sizeLine then (newL ds S1).bind fun d S2 => .ok (.next (ρ.set i (some d))) S2 else .fail
theorem setL_ok {i : Nat} {ρ : EnvD} {ds : List D} {S : Store} (h : ds.length ≤ sizeLine) : setL i ρ ds S = .ok (.next (ρ.set i (some (.ref S.length)))) (S ++ [some (.lst ds)]) := if_pos h
end E

set_option linter.all false
set_option maxRecDepth 100000
set_option maxHeartbeats 4000000
namespace T80
open PySem PySem.Spec PyProof.Rows L2 E
noncomputable section
abbrev PP : Program := PySem.Challenge.pw_treestold_k80_texts_of_sayings
def top (i : Nat) : Stmt := PP.main.body.getD i (.Pass ⟨0, 0, 0, 0⟩)
def sub (i j : Nat) : Stmt := match top i with
  | .ClassDef (body := b) .. => b.getD j (.Pass ⟨0, 0, 0, 0⟩)
  | _ => .Pass ⟨0, 0, 0, 0⟩
def d_is_name : Df := ⟨("is_name", none), "is_name", "is_name", ["word", "sign"], top 5, .cut, 30, none⟩
def d_words_in : Df := ⟨("words_in", none), "words_in", "words_in", ["line", "found", "word", "sign"], top 12, .cut, 30, none⟩
def d_Words___init__ : Df := ⟨("Words", some "__init__"), "__init__", "Words.__init__", ["self", "line", "words"], sub 13 0, .cut, 30, none⟩
def d_Words_next : Df := ⟨("Words", some "next"), "next", "Words.next", ["self"], sub 13 1, .cut, 30, none⟩
def d_Words_ended : Df := ⟨("Words", some "ended"), "ended", "Words.ended", ["self"], sub 13 2, .cut, 30, none⟩
def d_Words_refuse : Df := ⟨("Words", some "refuse"), "refuse", "Words.refuse", ["self"], sub 13 3, .cut, 30, none⟩
def d_Words_take : Df := ⟨("Words", some "take"), "take", "Words.take", ["self", "word"], sub 13 4, .cut, 30, none⟩
def d_Words_want : Df := ⟨("Words", some "want"), "want", "Words.want", ["self", "word"], sub 13 5, .cut, 30, none⟩
def d_Words_close : Df := ⟨("Words", some "close"), "close", "Words.close", ["self"], sub 13 6, .cut, 30, none⟩
def d_held_in : Df := ⟨("held_in", none), "held_in", "held_in", ["saying", "held", "text"], top 19, .cut, 30, none⟩
def d_saying_text : Df := ⟨("saying_text", none), "saying_text", "saying_text", ["saying"], top 20, .cut, 30, none⟩
def d_read_alternative : Df := ⟨("read_alternative", none), "read_alternative", "read_alternative", ["stock", "words", "deep", "found"], top 21, .cut, 30, none⟩
def d_read_together : Df := ⟨("read_together", none), "read_together", "read_together", ["stock", "words", "deep", "found"], top 22, .cut, 30, none⟩
def d_read_maker : Df := ⟨("read_maker", none), "read_maker", "read_maker", ["stock", "words", "maker"], top 23, .cut, 30, none⟩
def d_read_one : Df := ⟨("read_one", none), "read_one", "read_one", ["stock", "words", "deep", "word", "place", "found"], top 24, .cut, 30, none⟩
def d_read_saying : Df := ⟨("read_saying", none), "read_saying", "read_saying", ["stock", "text", "words", "found"], top 25, .cut, 30, none⟩
def d__law_same : Df := ⟨("_law_same", none), "_law_same", "_law_same", ["tells", "due", "k"], top 27, .cut, 30, none⟩
def d__law_number : Df := ⟨("_law_number", none), "_law_number", "_law_number", ["script", "k", "number"], top 28, .cut, 30, none⟩
def d__law_draws : Df := ⟨("_law_draws", none), "_law_draws", "_law_draws", ["script", "k", "count", "many", "number", "found", "at", "state", "another"], top 29, .cut, 30, none⟩
def d__law_pick : Df := ⟨("_law_pick", none), "_law_pick", "_law_pick", ["picks"], top 30, .cut, 30, none⟩
def d__law_picks : Df := ⟨("_law_picks", none), "_law_picks", "_law_picks", ["script", "k", "count", "picks"], top 31, .cut, 30, none⟩
def d__law_stock : Df := ⟨("_law_stock", none), "_law_stock", "_law_stock", ["picks", "sorts", "more", "names", "leaves", "others", "j", "places", "k"], top 32, .cut, 30, none⟩
def d__law_put : Df := ⟨("_law_put", none), "_law_put", "_law_put", ["items", "at", "item"], top 33, .cut, 30, none⟩
def d__law_spoilt : Df := ⟨("_law_spoilt", none), "_law_spoilt", "_law_spoilt", ["picks", "text", "strange", "lines", "at", "kind", "words", "spot", "word", "other"], top 34, .cut, 30, none⟩
def d__law_saying : Df := ⟨("_law_saying", none), "_law_saying", "_law_saying", ["picks", "stock", "deep", "kind", "one"], top 35, .cut, 30, none⟩
def d__law_saying_text : Df := ⟨("_law_saying_text", none), "_law_saying_text", "_law_saying_text", ["saying", "held", "text"], top 36, .cut, 30, none⟩
def d__law_signs : Df := ⟨("_law_signs", none), "_law_signs", "_law_signs", ["text", "found", "joined", "sign", "plain"], top 37, .cut, 30, none⟩
def d__law_read_one : Df := ⟨("_law_read_one", none), "_law_read_one", "_law_read_one", ["names", "words", "at", "deep", "word", "inner", "place"], top 38, .cut, 30, none⟩
def d__law_read_and : Df := ⟨("_law_read_and", none), "_law_read_and", "_law_read_and", ["names", "words", "at", "deep", "found", "turn", "inner"], top 39, .cut, 30, none⟩
def d__law_read_or : Df := ⟨("_law_read_or", none), "_law_read_or", "_law_read_or", ["names", "words", "at", "deep", "found", "turn", "inner"], top 40, .cut, 30, none⟩
def d__law_asked_text : Df := ⟨("_law_asked_text", none), "_law_asked_text", "_law_asked_text", ["stock", "text", "words", "due", "at", "found", "e", "maker"], top 41, .cut, 30, none⟩
def d__law_held : Df := ⟨("_law_held", none), "_law_held", "_law_held", ["picks", "stock", "count", "text", "turn", "kind"], top 42, .cut, 30, none⟩
def d0_law : Df := ⟨("law", none), "law", "law", ["script", "picks", "stock", "strange", "turn", "saying", "text", "texts", "k", "one", "count"], top 43, .cut, 30, none⟩
def d_law : Df := ⟨("law", none), "law", "law", ["script", "picks", "stock", "strange", "turn", "saying", "text", "texts", "k", "one", "count"], top 43, .cut, 30, some (semR d0_law)⟩
def x_BadText : Xd := ⟨"BadText", "BadText.__init__", ["line", "word"], sub 9 0⟩
def xs : List Xd := [x_BadText]
def pg : Pg := {
  defs := [d_is_name, d_words_in, d_Words___init__, d_Words_next, d_Words_ended, d_Words_refuse, d_Words_take, d_Words_want, d_Words_close, d_held_in, d_saying_text, d_read_alternative, d_read_together, d_read_maker, d_read_one, d_read_saying, d__law_same, d__law_number, d__law_draws, d__law_pick, d__law_picks, d__law_stock, d__law_put, d__law_spoilt, d__law_saying, d__law_saying_text, d__law_signs, d__law_read_one, d__law_read_and, d__law_read_or, d__law_asked_text, d__law_held, d_law]
  glob := [("LETTERS", .str "abcdefghijklmnopqrstuvwxyz"), ("FIGURES", .str "0123456789"), ("CLOSED", .tup [.str "worths", .str "sort", .str "up", .str "down", .str "maker", .str "makes", .str "of", .str "least", .str "most", .str "same", .str "pick", .str "hole", .str "never", .str "can"]), ("MOST_SIGNS", .int 6), ("DEEPEST", .int 40), ("ALTERNATIVE", .int 0), ("TOGETHER", .int 1), ("HELD", .int 2)]
  attrs := [("Words", ["line", "words", "at"])]
  exc := [("BadText", ["line", "word"])]
  exk := ["BadText"]
  exm := [(("BadText", "BadText"), true)]
  xattr := [("BadText", ["line", "word"])]
  xis := [(("BadText", "TreeError"), true), (("BadText", "BadFault"), false), (("BadText", "BadNumber"), false)]
  bis := ["len", "abs", "sum", "str", "int", "list", "tuple", "isinstance", "range", "bool"]
  hots := ["_law_same"]
  wf := 2000 }
theorem d_is_name_ok : DfOk d_is_name := ⟨⟨rfl, rfl, rfl, by decide +kernel, by decide +kernel, by decide +kernel, by decide +kernel⟩, fun _ _ _ _ _ _ us hl => match us, hl with | [_], _ => rfl⟩
theorem d_words_in_ok : DfOk d_words_in := ⟨⟨rfl, rfl, rfl, by decide +kernel, by decide +kernel, by decide +kernel, by decide +kernel⟩, fun _ _ _ _ _ _ us hl => match us, hl with | [_], _ => rfl⟩
theorem d_Words___init___ok : DfOk d_Words___init__ := ⟨⟨rfl, rfl, rfl, by decide +kernel, by decide +kernel, by decide +kernel, by decide +kernel⟩, fun _ _ _ _ _ _ us hl => match us, hl with | [_, _, _], _ => rfl⟩
theorem d_Words_next_ok : DfOk d_Words_next := ⟨⟨rfl, rfl, rfl, by decide +kernel, by decide +kernel, by decide +kernel, by decide +kernel⟩, fun _ _ _ _ _ _ us hl => match us, hl with | [_], _ => rfl⟩
theorem d_Words_ended_ok : DfOk d_Words_ended := ⟨⟨rfl, rfl, rfl, by decide +kernel, by decide +kernel, by decide +kernel, by decide +kernel⟩, fun _ _ _ _ _ _ us hl => match us, hl with | [_], _ => rfl⟩
theorem d_Words_refuse_ok : DfOk d_Words_refuse := ⟨⟨rfl, rfl, rfl, by decide +kernel, by decide +kernel, by decide +kernel, by decide +kernel⟩, fun _ _ _ _ _ _ us hl => match us, hl with | [_], _ => rfl⟩
theorem d_Words_take_ok : DfOk d_Words_take := ⟨⟨rfl, rfl, rfl, by decide +kernel, by decide +kernel, by decide +kernel, by decide +kernel⟩, fun _ _ _ _ _ _ us hl => match us, hl with | [_], _ => rfl⟩
theorem d_Words_want_ok : DfOk d_Words_want := ⟨⟨rfl, rfl, rfl, by decide +kernel, by decide +kernel, by decide +kernel, by decide +kernel⟩, fun _ _ _ _ _ _ us hl => match us, hl with | [_, _], _ => rfl⟩
theorem d_Words_close_ok : DfOk d_Words_close := ⟨⟨rfl, rfl, rfl, by decide +kernel, by decide +kernel, by decide +kernel, by decide +kernel⟩, fun _ _ _ _ _ _ us hl => match us, hl with | [_], _ => rfl⟩
theorem d_held_in_ok : DfOk d_held_in := ⟨⟨rfl, rfl, rfl, by decide +kernel, by decide +kernel, by decide +kernel, by decide +kernel⟩, fun _ _ _ _ _ _ us hl => match us, hl with | [_, _], _ => rfl⟩
theorem d_saying_text_ok : DfOk d_saying_text := ⟨⟨rfl, rfl, rfl, by decide +kernel, by decide +kernel, by decide +kernel, by decide +kernel⟩, fun _ _ _ _ _ _ us hl => match us, hl with | [_], _ => rfl⟩
theorem d_read_alternative_ok : DfOk d_read_alternative := ⟨⟨rfl, rfl, rfl, by decide +kernel, by decide +kernel, by decide +kernel, by decide +kernel⟩, fun _ _ _ _ _ _ us hl => match us, hl with | [_, _, _], _ => rfl⟩
theorem d_read_together_ok : DfOk d_read_together := ⟨⟨rfl, rfl, rfl, by decide +kernel, by decide +kernel, by decide +kernel, by decide +kernel⟩, fun _ _ _ _ _ _ us hl => match us, hl with | [_, _, _], _ => rfl⟩
theorem d_read_maker_ok : DfOk d_read_maker := ⟨⟨rfl, rfl, rfl, by decide +kernel, by decide +kernel, by decide +kernel, by decide +kernel⟩, fun _ _ _ _ _ _ us hl => match us, hl with | [_, _], _ => rfl⟩
theorem d_read_one_ok : DfOk d_read_one := ⟨⟨rfl, rfl, rfl, by decide +kernel, by decide +kernel, by decide +kernel, by decide +kernel⟩, fun _ _ _ _ _ _ us hl => match us, hl with | [_, _, _], _ => rfl⟩
theorem d_read_saying_ok : DfOk d_read_saying := ⟨⟨rfl, rfl, rfl, by decide +kernel, by decide +kernel, by decide +kernel, by decide +kernel⟩, fun _ _ _ _ _ _ us hl => match us, hl with | [_, _], _ => rfl⟩
theorem d__law_same_ok : DfOk d__law_same := ⟨⟨rfl, rfl, rfl, by decide +kernel, by decide +kernel, by decide +kernel, by decide +kernel⟩, fun _ _ _ _ _ _ us hl => match us, hl with | [_, _], _ => rfl⟩
theorem d__law_number_ok : DfOk d__law_number := ⟨⟨rfl, rfl, rfl, by decide +kernel, by decide +kernel, by decide +kernel, by decide +kernel⟩, fun _ _ _ _ _ _ us hl => match us, hl with | [_, _], _ => rfl⟩
theorem d__law_draws_ok : DfOk d__law_draws := ⟨⟨rfl, rfl, rfl, by decide +kernel, by decide +kernel, by decide +kernel, by decide +kernel⟩, fun _ _ _ _ _ _ us hl => match us, hl with | [_, _, _, _], _ => rfl⟩
theorem d__law_pick_ok : DfOk d__law_pick := ⟨⟨rfl, rfl, rfl, by decide +kernel, by decide +kernel, by decide +kernel, by decide +kernel⟩, fun _ _ _ _ _ _ us hl => match us, hl with | [_], _ => rfl⟩
theorem d__law_picks_ok : DfOk d__law_picks := ⟨⟨rfl, rfl, rfl, by decide +kernel, by decide +kernel, by decide +kernel, by decide +kernel⟩, fun _ _ _ _ _ _ us hl => match us, hl with | [_, _, _], _ => rfl⟩
theorem d__law_stock_ok : DfOk d__law_stock := ⟨⟨rfl, rfl, rfl, by decide +kernel, by decide +kernel, by decide +kernel, by decide +kernel⟩, fun _ _ _ _ _ _ us hl => match us, hl with | [_, _, _], _ => rfl⟩
theorem d__law_put_ok : DfOk d__law_put := ⟨⟨rfl, rfl, rfl, by decide +kernel, by decide +kernel, by decide +kernel, by decide +kernel⟩, fun _ _ _ _ _ _ us hl => match us, hl with | [_, _, _], _ => rfl⟩
theorem d__law_spoilt_ok : DfOk d__law_spoilt := ⟨⟨rfl, rfl, rfl, by decide +kernel, by decide +kernel, by decide +kernel, by decide +kernel⟩, fun _ _ _ _ _ _ us hl => match us, hl with | [_, _, _], _ => rfl⟩
theorem d__law_saying_ok : DfOk d__law_saying := ⟨⟨rfl, rfl, rfl, by decide +kernel, by decide +kernel, by decide +kernel, by decide +kernel⟩, fun _ _ _ _ _ _ us hl => match us, hl with | [_, _, _], _ => rfl⟩
theorem d__law_saying_text_ok : DfOk d__law_saying_text := ⟨⟨rfl, rfl, rfl, by decide +kernel, by decide +kernel, by decide +kernel, by decide +kernel⟩, fun _ _ _ _ _ _ us hl => match us, hl with | [_, _], _ => rfl⟩
theorem d__law_signs_ok : DfOk d__law_signs := ⟨⟨rfl, rfl, rfl, by decide +kernel, by decide +kernel, by decide +kernel, by decide +kernel⟩, fun _ _ _ _ _ _ us hl => match us, hl with | [_], _ => rfl⟩
theorem d__law_read_one_ok : DfOk d__law_read_one := ⟨⟨rfl, rfl, rfl, by decide +kernel, by decide +kernel, by decide +kernel, by decide +kernel⟩, fun _ _ _ _ _ _ us hl => match us, hl with | [_, _, _, _], _ => rfl⟩
theorem d__law_read_and_ok : DfOk d__law_read_and := ⟨⟨rfl, rfl, rfl, by decide +kernel, by decide +kernel, by decide +kernel, by decide +kernel⟩, fun _ _ _ _ _ _ us hl => match us, hl with | [_, _, _, _], _ => rfl⟩
theorem d__law_read_or_ok : DfOk d__law_read_or := ⟨⟨rfl, rfl, rfl, by decide +kernel, by decide +kernel, by decide +kernel, by decide +kernel⟩, fun _ _ _ _ _ _ us hl => match us, hl with | [_, _, _, _], _ => rfl⟩
theorem d__law_asked_text_ok : DfOk d__law_asked_text := ⟨⟨rfl, rfl, rfl, by decide +kernel, by decide +kernel, by decide +kernel, by decide +kernel⟩, fun _ _ _ _ _ _ us hl => match us, hl with | [_, _], _ => rfl⟩
theorem d__law_held_ok : DfOk d__law_held := ⟨⟨rfl, rfl, rfl, by decide +kernel, by decide +kernel, by decide +kernel, by decide +kernel⟩, fun _ _ _ _ _ _ us hl => match us, hl with | [_, _, _], _ => rfl⟩
theorem d_law_ok : DfOk d_law := ⟨⟨rfl, rfl, rfl, by decide +kernel, by decide +kernel, by decide +kernel, by decide +kernel⟩, fun _ _ _ _ _ _ us hl => match us, hl with | [_], _ => rfl⟩
theorem defs_ok : ∀ d ∈ pg.defs, DfOk d := by
  intro d hd
  simp only [pg, List.mem_cons, List.not_mem_nil, or_false] at hd
  rcases hd with rfl | rfl | rfl | rfl | rfl | rfl | rfl | rfl | rfl | rfl | rfl | rfl | rfl | rfl | rfl | rfl | rfl | rfl | rfl | rfl | rfl | rfl | rfl | rfl | rfl | rfl | rfl | rfl | rfl | rfl | rfl | rfl | rfl
  · exact d_is_name_ok
  · exact d_words_in_ok
  · exact d_Words___init___ok
  · exact d_Words_next_ok
  · exact d_Words_ended_ok
  · exact d_Words_refuse_ok
  · exact d_Words_take_ok
  · exact d_Words_want_ok
  · exact d_Words_close_ok
  · exact d_held_in_ok
  · exact d_saying_text_ok
  · exact d_read_alternative_ok
  · exact d_read_together_ok
  · exact d_read_maker_ok
  · exact d_read_one_ok
  · exact d_read_saying_ok
  · exact d__law_same_ok
  · exact d__law_number_ok
  · exact d__law_draws_ok
  · exact d__law_pick_ok
  · exact d__law_picks_ok
  · exact d__law_stock_ok
  · exact d__law_put_ok
  · exact d__law_spoilt_ok
  · exact d__law_saying_ok
  · exact d__law_saying_text_ok
  · exact d__law_signs_ok
  · exact d__law_read_one_ok
  · exact d__law_read_and_ok
  · exact d__law_read_or_ok
  · exact d__law_asked_text_ok
  · exact d__law_held_ok
  · exact d_law_ok
end
end T80

set_option linter.all false
set_option maxRecDepth 100000
set_option maxHeartbeats 0
namespace T80
open PySem PySem.Spec PyProof.Rows L2 E
noncomputable section
abbrev RR : PySem.W.OpenRow := PySem.W.OpenLaw.row PySem.Challenge.rw_treestold_k80_texts_of_sayings
abbrev hk : PySem.W.Hook := hookE 6 pg xs PP
def ob (s : PySem.W.SharedT) : AlE := obE pg xs PP (frK (HandSHeadRun.getT s) 6)
theorem ob_eq (s : PySem.W.SharedT) : ob s = hk.obs s.abs := hookE_eq (HandSHeadRun.getT_eq s)
def nm0 : List PySem.Str := ["LETTERS", "FIGURES", "CLOSED", "MOST_SIGNS", "is_name", "TreeError", "BadFault", "BadText", "BadNumber", "words_in", "Words", "DEEPEST"]
def nm1 : List PySem.Str := ["ALTERNATIVE", "TOGETHER", "HELD", "held_in", "saying_text", "read_alternative", "read_together", "read_maker", "read_one", "read_saying", "_law_same", "_law_number"]
def nm2 : List PySem.Str := ["_law_draws", "_law_pick", "_law_picks", "_law_stock", "_law_put", "_law_spoilt", "_law_saying", "_law_saying_text", "_law_signs", "_law_read_one", "_law_read_and", "_law_read_or"]
def nm3 : List PySem.Str := ["_law_asked_text", "_law_held"]
def names : List PySem.Str := nm0 ++ nm1 ++ nm2 ++ nm3
theorem run (w : World) : HandSHeadRun.RunEq RR (PySem.W.view RR.prog [43]) hk ob 3000 names w := by
  intro os
  kernel_rfl
end
end T80

set_option linter.all false
set_option maxRecDepth 100000
set_option maxHeartbeats 4000000
namespace T80
open PySem PySem.Spec PyProof.Rows L2 E
noncomputable section
/-- a constant of the module -/
def gv (x : Str) : D := (pg.glob.lookup x).getD .non
noncomputable def is_name_b0_0 (n : Nat) : EvS := exB (d_is_name.gm (pg.tab (n + 2)) false) 30 (List.drop 0 (defBody d_is_name.st))
noncomputable def is_name_b0_1 (n : Nat) : EvS := exB (d_is_name.gm (pg.tab (n + 2)) false) 30 (List.drop 1 (defBody d_is_name.st))
noncomputable def is_name_b0_2 (n : Nat) : EvS := exB (d_is_name.gm (pg.tab (n + 2)) false) 30 (List.drop 2 (defBody d_is_name.st))
noncomputable def is_name_b0_3 (n : Nat) : EvS := exB (d_is_name.gm (pg.tab (n + 2)) false) 30 (List.drop 3 (defBody d_is_name.st))
noncomputable def is_name_b0_4 (n : Nat) : EvS := fun ρ S => Res.ok (Fl.next ρ) S
noncomputable def is_name_b1_0 (n : Nat) : EvS := exB (d_is_name.gm (pg.tab (n + 2)) false) 29 (List.drop 0 (ifA (at_ (defBody d_is_name.st) 0)))
noncomputable def is_name_b1_1 (n : Nat) : EvS := fun ρ S => Res.ok (Fl.next ρ) S
theorem is_name_b1_0_eq (n : Nat) (ρ : EnvD) (S : Store) : is_name_b1_0 n ρ S = seqE ((Res.ok (D.bl false) S).bind fun d1 S2 => Res.ok (Fl.ret d1) S2) (is_name_b1_1 n) := by kernel_rfl
theorem is_name_b0_0_eq (n : Nat) (ρ : EnvD) (S : Store) : is_name_b0_0 n ρ S = seqE ((orB (((getE ρ 0 S).bind fun d6 S7 => (Res.ok (D.str "") S7).bind fun d8 S9 => cmpD .Eq d6 d8 S9).bind asB) fun S5 => orB ((((consR (getE ρ 0 S5) fun S11 => Res.ok [] S11).bind lenD).bind fun d12 S13 => (Res.ok (gv "MOST_SIGNS") S13).bind fun d14 S15 => cmpD .Gt d12 d14 S15).bind asB) fun S10 => ((getE ρ 0 S10).bind fun d16 S17 => (Res.ok (gv "CLOSED") S17).bind fun d18 S19 => cmpD .In d16 d18 S19).bind asB).bind fun b3 S4 => if b3 then is_name_b1_0 n ρ S4 else Res.ok (Fl.next ρ) S4) (is_name_b0_1 n) := by kernel_rfl
noncomputable def is_name_b2_0 (n : Nat) : EvS := exB (d_is_name.gm (pg.tab (n + 2)) false) 29 (List.drop 0 (ifA (at_ (defBody d_is_name.st) 1)))
noncomputable def is_name_b2_1 (n : Nat) : EvS := fun ρ S => Res.ok (Fl.next ρ) S
theorem is_name_b2_0_eq (n : Nat) (ρ : EnvD) (S : Store) : is_name_b2_0 n ρ S = seqE ((Res.ok (D.bl false) S).bind fun d20 S21 => Res.ok (Fl.ret d20) S21) (is_name_b2_1 n) := by kernel_rfl
theorem is_name_b0_1_eq (n : Nat) (ρ : EnvD) (S : Store) : is_name_b0_1 n ρ S = seqE (((((getE ρ 0 S).bind fun d24 S25 => (Res.ok (D.int 0) S25).bind fun d26 S27 => ixD d24 d26 S27).bind fun d28 S29 => (Res.ok (gv "LETTERS") S29).bind fun d30 S31 => cmpD .NotIn d28 d30 S31).bind asB).bind fun b22 S23 => if b22 then is_name_b2_0 n ρ S23 else Res.ok (Fl.next ρ) S23) (is_name_b0_2 n) := by kernel_rfl
noncomputable def is_name_b3_0 (n : Nat) : EvS := exB (d_is_name.gm (pg.tab (n + 2)) false) 29 (List.drop 0 (forB (at_ (defBody d_is_name.st) 2)))
noncomputable def is_name_b3_1 (n : Nat) : EvS := fun ρ S => Res.ok (Fl.next ρ) S
noncomputable def is_name_b4_0 (n : Nat) : EvS := exB (d_is_name.gm (pg.tab (n + 2)) false) 28 (List.drop 0 (ifA (at_ (forB (at_ (defBody d_is_name.st) 2)) 0)))
noncomputable def is_name_b4_1 (n : Nat) : EvS := fun ρ S => Res.ok (Fl.next ρ) S
theorem is_name_b4_0_eq (n : Nat) (ρ : EnvD) (S : Store) : is_name_b4_0 n ρ S = seqE ((Res.ok (D.bl false) S).bind fun d32 S33 => Res.ok (Fl.ret d32) S33) (is_name_b4_1 n) := by kernel_rfl
theorem is_name_b3_0_eq (n : Nat) (ρ : EnvD) (S : Store) : is_name_b3_0 n ρ S = seqE ((andB (((getE ρ 1 S).bind fun d37 S38 => (Res.ok (gv "LETTERS") S38).bind fun d39 S40 => cmpD .NotIn d37 d39 S40).bind asB) fun S36 => ((getE ρ 1 S36).bind fun d41 S42 => (Res.ok (gv "FIGURES") S42).bind fun d43 S44 => cmpD .NotIn d41 d43 S44).bind asB).bind fun b34 S35 => if b34 then is_name_b4_0 n ρ S35 else Res.ok (Fl.next ρ) S35) (is_name_b3_1 n) := by kernel_rfl
theorem is_name_b0_2_eq (n : Nat) (ρ : EnvD) (S : Store) : is_name_b0_2 n ρ S = seqE (((getE ρ 0 S).bind iterD).bind fun p45 S46 => forE (fun x r => some (List.set r 1 (some x))) (is_name_b3_0 n) p45.2 p45.1 p45.1 ρ S46) (is_name_b0_3 n) := by kernel_rfl
theorem is_name_b0_3_eq (n : Nat) (ρ : EnvD) (S : Store) : is_name_b0_3 n ρ S = seqE ((Res.ok (D.bl true) S).bind fun d47 S48 => Res.ok (Fl.ret d47) S48) (is_name_b0_4 n) := by kernel_rfl
theorem is_name_sem (n : Nat) (p0 : D) (S : Store) : d_is_name.sem (pg.tab (n + 2)) [p0] S = outR .cut S (is_name_b0_0 n [some p0, none] S) := by kernel_rfl
noncomputable def words_in_b0_0 (n : Nat) : EvS := exB (d_words_in.gm (pg.tab (n + 2)) false) 30 (List.drop 0 (defBody d_words_in.st))
noncomputable def words_in_b0_1 (n : Nat) : EvS := exB (d_words_in.gm (pg.tab (n + 2)) false) 30 (List.drop 1 (defBody d_words_in.st))
noncomputable def words_in_b0_2 (n : Nat) : EvS := exB (d_words_in.gm (pg.tab (n + 2)) false) 30 (List.drop 2 (defBody d_words_in.st))
noncomputable def words_in_b0_3 (n : Nat) : EvS := exB (d_words_in.gm (pg.tab (n + 2)) false) 30 (List.drop 3 (defBody d_words_in.st))
noncomputable def words_in_b0_4 (n : Nat) : EvS := exB (d_words_in.gm (pg.tab (n + 2)) false) 30 (List.drop 4 (defBody d_words_in.st))
noncomputable def words_in_b0_5 (n : Nat) : EvS := fun ρ S => Res.ok (Fl.next ρ) S
theorem words_in_b0_0_eq (n : Nat) (ρ : EnvD) (S : Store) : words_in_b0_0 n ρ S = seqE (((Res.ok [] S).bind lstR).bind fun d1 S2 => Res.ok (Fl.next (List.set ρ 1 (some d1))) S2) (words_in_b0_1 n) := by kernel_rfl
theorem words_in_b0_1_eq (n : Nat) (ρ : EnvD) (S : Store) : words_in_b0_1 n ρ S = seqE ((Res.ok (D.str "") S).bind fun d3 S4 => Res.ok (Fl.next (List.set ρ 2 (some d3))) S4) (words_in_b0_2 n) := by kernel_rfl
noncomputable def words_in_b1_0 (n : Nat) : EvS := exB (d_words_in.gm (pg.tab (n + 2)) false) 29 (List.drop 0 (forB (at_ (defBody d_words_in.st) 2)))
noncomputable def words_in_b1_1 (n : Nat) : EvS := fun ρ S => Res.ok (Fl.next ρ) S
noncomputable def words_in_b2_0 (n : Nat) : EvS := exB (d_words_in.gm (pg.tab (n + 2)) false) 28 (List.drop 0 (ifA (at_ (forB (at_ (defBody d_words_in.st) 2)) 0)))
noncomputable def words_in_b2_1 (n : Nat) : EvS := fun ρ S => Res.ok (Fl.next ρ) S
theorem words_in_b2_0_eq (n : Nat) (ρ : EnvD) (S : Store) : words_in_b2_0 n ρ S = seqE (((getE ρ 2 S).bind fun d5 S6 => (getE ρ 3 S6).bind fun d7 S8 => binD .Add d5 d7 S8).bind fun d9 S10 => Res.ok (Fl.next (List.set ρ 2 (some d9))) S10) (words_in_b2_1 n) := by kernel_rfl
noncomputable def words_in_b3_0 (n : Nat) : EvS := exB (d_words_in.gm (pg.tab (n + 2)) false) 28 (List.drop 0 (ifB (at_ (forB (at_ (defBody d_words_in.st) 2)) 0)))
noncomputable def words_in_b3_1 (n : Nat) : EvS := exB (d_words_in.gm (pg.tab (n + 2)) false) 28 (List.drop 1 (ifB (at_ (forB (at_ (defBody d_words_in.st) 2)) 0)))
noncomputable def words_in_b3_2 (n : Nat) : EvS := exB (d_words_in.gm (pg.tab (n + 2)) false) 28 (List.drop 2 (ifB (at_ (forB (at_ (defBody d_words_in.st) 2)) 0)))
noncomputable def words_in_b3_3 (n : Nat) : EvS := fun ρ S => Res.ok (Fl.next ρ) S
noncomputable def words_in_b4_0 (n : Nat) : EvS := exB (d_words_in.gm (pg.tab (n + 2)) false) 27 (List.drop 0 (ifA (at_ (ifB (at_ (forB (at_ (defBody d_words_in.st) 2)) 0)) 0)))
noncomputable def words_in_b4_1 (n : Nat) : EvS := fun ρ S => Res.ok (Fl.next ρ) S
theorem words_in_b4_0_eq (n : Nat) (ρ : EnvD) (S : Store) : words_in_b4_0 n ρ S = seqE (((getE ρ 1 S).bind (mK1 (pg.tab (n + 2)) "append" fun S11 => consR (getE ρ 2 S11) fun S12 => Res.ok [] S12)).bind fun d13 S14 => Res.ok (Fl.next ρ) S14) (words_in_b4_1 n) := by kernel_rfl
theorem words_in_b3_0_eq (n : Nat) (ρ : EnvD) (S : Store) : words_in_b3_0 n ρ S = seqE ((((getE ρ 2 S).bind fun d17 S18 => (Res.ok (D.str "") S18).bind fun d19 S20 => cmpD .NotEq d17 d19 S20).bind asB).bind fun b15 S16 => if b15 then words_in_b4_0 n ρ S16 else Res.ok (Fl.next ρ) S16) (words_in_b3_1 n) := by kernel_rfl
theorem words_in_b3_1_eq (n : Nat) (ρ : EnvD) (S : Store) : words_in_b3_1 n ρ S = seqE ((Res.ok (D.str "") S).bind fun d21 S22 => Res.ok (Fl.next (List.set ρ 2 (some d21))) S22) (words_in_b3_2 n) := by kernel_rfl
noncomputable def words_in_b5_0 (n : Nat) : EvS := exB (d_words_in.gm (pg.tab (n + 2)) false) 27 (List.drop 0 (ifA (at_ (ifB (at_ (forB (at_ (defBody d_words_in.st) 2)) 0)) 2)))
noncomputable def words_in_b5_1 (n : Nat) : EvS := fun ρ S => Res.ok (Fl.next ρ) S
theorem words_in_b5_0_eq (n : Nat) (ρ : EnvD) (S : Store) : words_in_b5_0 n ρ S = seqE (((getE ρ 1 S).bind (mK1 (pg.tab (n + 2)) "append" fun S23 => consR (getE ρ 3 S23) fun S24 => Res.ok [] S24)).bind fun d25 S26 => Res.ok (Fl.next ρ) S26) (words_in_b5_1 n) := by kernel_rfl
theorem words_in_b3_2_eq (n : Nat) (ρ : EnvD) (S : Store) : words_in_b3_2 n ρ S = seqE ((((getE ρ 3 S).bind fun d29 S30 => (Res.ok (D.str " ") S30).bind fun d31 S32 => cmpD .NotEq d29 d31 S32).bind asB).bind fun b27 S28 => if b27 then words_in_b5_0 n ρ S28 else Res.ok (Fl.next ρ) S28) (words_in_b3_3 n) := by kernel_rfl
theorem words_in_b1_0_eq (n : Nat) (ρ : EnvD) (S : Store) : words_in_b1_0 n ρ S = seqE ((orB (((getE ρ 3 S).bind fun d36 S37 => (Res.ok (gv "LETTERS") S37).bind fun d38 S39 => cmpD .In d36 d38 S39).bind asB) fun S35 => ((getE ρ 3 S35).bind fun d40 S41 => (Res.ok (gv "FIGURES") S41).bind fun d42 S43 => cmpD .In d40 d42 S43).bind asB).bind fun b33 S34 => if b33 then words_in_b2_0 n ρ S34 else words_in_b3_0 n ρ S34) (words_in_b1_1 n) := by kernel_rfl
theorem words_in_b0_2_eq (n : Nat) (ρ : EnvD) (S : Store) : words_in_b0_2 n ρ S = seqE (((getE ρ 0 S).bind iterD).bind fun p44 S45 => forE (fun x r => some (List.set r 3 (some x))) (words_in_b1_0 n) p44.2 p44.1 p44.1 ρ S45) (words_in_b0_3 n) := by kernel_rfl
noncomputable def words_in_b6_0 (n : Nat) : EvS := exB (d_words_in.gm (pg.tab (n + 2)) false) 29 (List.drop 0 (ifA (at_ (defBody d_words_in.st) 3)))
noncomputable def words_in_b6_1 (n : Nat) : EvS := fun ρ S => Res.ok (Fl.next ρ) S
theorem words_in_b6_0_eq (n : Nat) (ρ : EnvD) (S : Store) : words_in_b6_0 n ρ S = seqE (((getE ρ 1 S).bind (mK1 (pg.tab (n + 2)) "append" fun S46 => consR (getE ρ 2 S46) fun S47 => Res.ok [] S47)).bind fun d48 S49 => Res.ok (Fl.next ρ) S49) (words_in_b6_1 n) := by kernel_rfl
theorem words_in_b0_3_eq (n : Nat) (ρ : EnvD) (S : Store) : words_in_b0_3 n ρ S = seqE ((((getE ρ 2 S).bind fun d52 S53 => (Res.ok (D.str "") S53).bind fun d54 S55 => cmpD .NotEq d52 d54 S55).bind asB).bind fun b50 S51 => if b50 then words_in_b6_0 n ρ S51 else Res.ok (Fl.next ρ) S51) (words_in_b0_4 n) := by kernel_rfl
theorem words_in_b0_4_eq (n : Nat) (ρ : EnvD) (S : Store) : words_in_b0_4 n ρ S = seqE ((getE ρ 1 S).bind fun d56 S57 => Res.ok (Fl.ret d56) S57) (words_in_b0_5 n) := by kernel_rfl
theorem words_in_sem (n : Nat) (p0 : D) (S : Store) : d_words_in.sem (pg.tab (n + 2)) [p0] S = outR .cut S (words_in_b0_0 n [some p0, none, none, none] S) := by kernel_rfl
noncomputable def Words___init___b0_0 (n : Nat) : EvS := exB (d_Words___init__.gm (pg.tab (n + 2)) false) 30 (List.drop 0 (defBody d_Words___init__.st))
noncomputable def Words___init___b0_1 (n : Nat) : EvS := exB (d_Words___init__.gm (pg.tab (n + 2)) false) 30 (List.drop 1 (defBody d_Words___init__.st))
noncomputable def Words___init___b0_2 (n : Nat) : EvS := exB (d_Words___init__.gm (pg.tab (n + 2)) false) 30 (List.drop 2 (defBody d_Words___init__.st))
noncomputable def Words___init___b0_3 (n : Nat) : EvS := fun ρ S => Res.ok (Fl.next ρ) S
theorem Words___init___b0_0_eq (n : Nat) (ρ : EnvD) (S : Store) : Words___init___b0_0 n ρ S = seqE ((getE ρ 1 S).bind fun d1 S2 => (getE ρ 0 S2).bind fun d3 S4 => putR (pg.tab (n + 2)) "line" d3 d1 ρ S4) (Words___init___b0_1 n) := by kernel_rfl
theorem Words___init___b0_1_eq (n : Nat) (ρ : EnvD) (S : Store) : Words___init___b0_1 n ρ S = seqE ((getE ρ 2 S).bind fun d5 S6 => (getE ρ 0 S6).bind fun d7 S8 => putR (pg.tab (n + 2)) "words" d7 d5 ρ S8) (Words___init___b0_2 n) := by kernel_rfl
theorem Words___init___b0_2_eq (n : Nat) (ρ : EnvD) (S : Store) : Words___init___b0_2 n ρ S = seqE ((Res.ok (D.int 0) S).bind fun d9 S10 => (getE ρ 0 S10).bind fun d11 S12 => putR (pg.tab (n + 2)) "at" d11 d9 ρ S12) (Words___init___b0_3 n) := by kernel_rfl
theorem Words___init___sem (n : Nat) (p0 p1 p2 : D) (S : Store) : d_Words___init__.sem (pg.tab (n + 2)) [p0, p1, p2] S = outR .cut S (Words___init___b0_0 n [some p0, some p1, some p2] S) := by kernel_rfl
noncomputable def Words_next_b0_0 (n : Nat) : EvS := exB (d_Words_next.gm (pg.tab (n + 2)) false) 30 (List.drop 0 (defBody d_Words_next.st))
noncomputable def Words_next_b0_1 (n : Nat) : EvS := exB (d_Words_next.gm (pg.tab (n + 2)) false) 30 (List.drop 1 (defBody d_Words_next.st))
noncomputable def Words_next_b0_2 (n : Nat) : EvS := fun ρ S => Res.ok (Fl.next ρ) S
noncomputable def Words_next_b1_0 (n : Nat) : EvS := exB (d_Words_next.gm (pg.tab (n + 2)) false) 29 (List.drop 0 (ifA (at_ (defBody d_Words_next.st) 0)))
noncomputable def Words_next_b1_1 (n : Nat) : EvS := fun ρ S => Res.ok (Fl.next ρ) S
theorem Words_next_b1_0_eq (n : Nat) (ρ : EnvD) (S : Store) : Words_next_b1_0 n ρ S = seqE ((((getE ρ 0 S).bind fun d1 S2 => attrE (pg.tab (n + 2)) "words" d1 S2).bind fun d3 S4 => ((getE ρ 0 S4).bind fun d5 S6 => attrE (pg.tab (n + 2)) "at" d5 S6).bind fun d7 S8 => ixD d3 d7 S8).bind fun d9 S10 => Res.ok (Fl.ret d9) S10) (Words_next_b1_1 n) := by kernel_rfl
theorem Words_next_b0_0_eq (n : Nat) (ρ : EnvD) (S : Store) : Words_next_b0_0 n ρ S = seqE (((((getE ρ 0 S).bind fun d13 S14 => attrE (pg.tab (n + 2)) "at" d13 S14).bind fun d15 S16 => ((consR ((getE ρ 0 S16).bind fun d18 S19 => attrE (pg.tab (n + 2)) "words" d18 S19) fun S17 => Res.ok [] S17).bind lenD).bind fun d20 S21 => cmpD .Lt d15 d20 S21).bind asB).bind fun b11 S12 => if b11 then Words_next_b1_0 n ρ S12 else Res.ok (Fl.next ρ) S12) (Words_next_b0_1 n) := by kernel_rfl
theorem Words_next_b0_1_eq (n : Nat) (ρ : EnvD) (S : Store) : Words_next_b0_1 n ρ S = seqE ((Res.ok (D.str "") S).bind fun d22 S23 => Res.ok (Fl.ret d22) S23) (Words_next_b0_2 n) := by kernel_rfl
theorem Words_next_sem (n : Nat) (p0 : D) (S : Store) : d_Words_next.sem (pg.tab (n + 2)) [p0] S = outR .cut S (Words_next_b0_0 n [some p0] S) := by kernel_rfl
noncomputable def Words_ended_b0_0 (n : Nat) : EvS := exB (d_Words_ended.gm (pg.tab (n + 2)) false) 30 (List.drop 0 (defBody d_Words_ended.st))
noncomputable def Words_ended_b0_1 (n : Nat) : EvS := fun ρ S => Res.ok (Fl.next ρ) S
theorem Words_ended_b0_0_eq (n : Nat) (ρ : EnvD) (S : Store) : Words_ended_b0_0 n ρ S = seqE ((((getE ρ 0 S).bind fun d1 S2 => attrE (pg.tab (n + 2)) "at" d1 S2).bind fun d3 S4 => ((consR ((getE ρ 0 S4).bind fun d6 S7 => attrE (pg.tab (n + 2)) "words" d6 S7) fun S5 => Res.ok [] S5).bind lenD).bind fun d8 S9 => cmpD .GtE d3 d8 S9).bind fun d10 S11 => Res.ok (Fl.ret d10) S11) (Words_ended_b0_1 n) := by kernel_rfl
theorem Words_ended_sem (n : Nat) (p0 : D) (S : Store) : d_Words_ended.sem (pg.tab (n + 2)) [p0] S = outR .cut S (Words_ended_b0_0 n [some p0] S) := by kernel_rfl
noncomputable def Words_refuse_b0_0 (n : Nat) : EvS := exB (d_Words_refuse.gm (pg.tab (n + 2)) false) 30 (List.drop 0 (defBody d_Words_refuse.st))
noncomputable def Words_refuse_b0_1 (n : Nat) : EvS := fun ρ S => Res.ok (Fl.next ρ) S
theorem Words_refuse_b0_0_eq (n : Nat) (ρ : EnvD) (S : Store) : Words_refuse_b0_0 n ρ S = seqE ((consR ((getE ρ 0 S).bind fun d2 S3 => attrE (pg.tab (n + 2)) "line" d2 S3) fun S1 => consR ((getE ρ 0 S1).bind fun d5 S6 => attrE (pg.tab (n + 2)) "at" d5 S6) fun S4 => Res.ok [] S4).bind (excR "BadText" ["line", "word"])) (Words_refuse_b0_1 n) := by kernel_rfl
theorem Words_refuse_sem (n : Nat) (p0 : D) (S : Store) : d_Words_refuse.sem (pg.tab (n + 2)) [p0] S = outR .cut S (Words_refuse_b0_0 n [some p0] S) := by kernel_rfl
noncomputable def Words_take_b0_0 (n : Nat) : EvS := exB (d_Words_take.gm (pg.tab (n + 2)) false) 30 (List.drop 0 (defBody d_Words_take.st))
noncomputable def Words_take_b0_1 (n : Nat) : EvS := exB (d_Words_take.gm (pg.tab (n + 2)) false) 30 (List.drop 1 (defBody d_Words_take.st))
noncomputable def Words_take_b0_2 (n : Nat) : EvS := exB (d_Words_take.gm (pg.tab (n + 2)) false) 30 (List.drop 2 (defBody d_Words_take.st))
noncomputable def Words_take_b0_3 (n : Nat) : EvS := fun ρ S => Res.ok (Fl.next ρ) S
theorem Words_take_b0_0_eq (n : Nat) (ρ : EnvD) (S : Store) : Words_take_b0_0 n ρ S = seqE (((getE ρ 0 S).bind (mK0 (pg.tab (n + 2)) "next" fun S1 => Res.ok [] S1)).bind fun d2 S3 => Res.ok (Fl.next (List.set ρ 1 (some d2))) S3) (Words_take_b0_1 n) := by kernel_rfl
theorem Words_take_b0_1_eq (n : Nat) (ρ : EnvD) (S : Store) : Words_take_b0_1 n ρ S = seqE ((((getE ρ 0 S).bind fun d4 S5 => attrE (pg.tab (n + 2)) "at" d4 S5).bind fun d6 S7 => (Res.ok (D.int 1) S7).bind fun d8 S9 => binD .Add d6 d8 S9).bind fun d10 S11 => (getE ρ 0 S11).bind fun d12 S13 => putR (pg.tab (n + 2)) "at" d12 d10 ρ S13) (Words_take_b0_2 n) := by kernel_rfl
theorem Words_take_b0_2_eq (n : Nat) (ρ : EnvD) (S : Store) : Words_take_b0_2 n ρ S = seqE ((getE ρ 1 S).bind fun d14 S15 => Res.ok (Fl.ret d14) S15) (Words_take_b0_3 n) := by kernel_rfl
theorem Words_take_sem (n : Nat) (p0 : D) (S : Store) : d_Words_take.sem (pg.tab (n + 2)) [p0] S = outR .cut S (Words_take_b0_0 n [some p0, none] S) := by kernel_rfl
noncomputable def Words_want_b0_0 (n : Nat) : EvS := exB (d_Words_want.gm (pg.tab (n + 2)) false) 30 (List.drop 0 (defBody d_Words_want.st))
noncomputable def Words_want_b0_1 (n : Nat) : EvS := exB (d_Words_want.gm (pg.tab (n + 2)) false) 30 (List.drop 1 (defBody d_Words_want.st))
noncomputable def Words_want_b0_2 (n : Nat) : EvS := fun ρ S => Res.ok (Fl.next ρ) S
noncomputable def Words_want_b1_0 (n : Nat) : EvS := exB (d_Words_want.gm (pg.tab (n + 2)) false) 29 (List.drop 0 (ifA (at_ (defBody d_Words_want.st) 0)))
noncomputable def Words_want_b1_1 (n : Nat) : EvS := fun ρ S => Res.ok (Fl.next ρ) S
theorem Words_want_b1_0_eq (n : Nat) (ρ : EnvD) (S : Store) : Words_want_b1_0 n ρ S = seqE (((getE ρ 0 S).bind (mK0 (pg.tab (n + 2)) "refuse" fun S1 => Res.ok [] S1)).bind fun d2 S3 => Res.ok (Fl.next ρ) S3) (Words_want_b1_1 n) := by kernel_rfl
theorem Words_want_b0_0_eq (n : Nat) (ρ : EnvD) (S : Store) : Words_want_b0_0 n ρ S = seqE (((((getE ρ 0 S).bind (mK0 (pg.tab (n + 2)) "next" fun S6 => Res.ok [] S6)).bind fun d7 S8 => (getE ρ 1 S8).bind fun d9 S10 => cmpD .NotEq d7 d9 S10).bind asB).bind fun b4 S5 => if b4 then Words_want_b1_0 n ρ S5 else Res.ok (Fl.next ρ) S5) (Words_want_b0_1 n) := by kernel_rfl
theorem Words_want_b0_1_eq (n : Nat) (ρ : EnvD) (S : Store) : Words_want_b0_1 n ρ S = seqE ((((getE ρ 0 S).bind fun d11 S12 => attrE (pg.tab (n + 2)) "at" d11 S12).bind fun d13 S14 => (Res.ok (D.int 1) S14).bind fun d15 S16 => binD .Add d13 d15 S16).bind fun d17 S18 => (getE ρ 0 S18).bind fun d19 S20 => putR (pg.tab (n + 2)) "at" d19 d17 ρ S20) (Words_want_b0_2 n) := by kernel_rfl
theorem Words_want_sem (n : Nat) (p0 p1 : D) (S : Store) : d_Words_want.sem (pg.tab (n + 2)) [p0, p1] S = outR .cut S (Words_want_b0_0 n [some p0, some p1] S) := by kernel_rfl
noncomputable def Words_close_b0_0 (n : Nat) : EvS := exB (d_Words_close.gm (pg.tab (n + 2)) false) 30 (List.drop 0 (defBody d_Words_close.st))
noncomputable def Words_close_b0_1 (n : Nat) : EvS := fun ρ S => Res.ok (Fl.next ρ) S
noncomputable def Words_close_b1_0 (n : Nat) : EvS := exB (d_Words_close.gm (pg.tab (n + 2)) false) 29 (List.drop 0 (ifA (at_ (defBody d_Words_close.st) 0)))
noncomputable def Words_close_b1_1 (n : Nat) : EvS := fun ρ S => Res.ok (Fl.next ρ) S
theorem Words_close_b1_0_eq (n : Nat) (ρ : EnvD) (S : Store) : Words_close_b1_0 n ρ S = seqE (((getE ρ 0 S).bind (mK0 (pg.tab (n + 2)) "refuse" fun S1 => Res.ok [] S1)).bind fun d2 S3 => Res.ok (Fl.next ρ) S3) (Words_close_b1_1 n) := by kernel_rfl
theorem Words_close_b0_0_eq (n : Nat) (ρ : EnvD) (S : Store) : Words_close_b0_0 n ρ S = seqE (((truR ((getE ρ 0 S).bind (mK0 (pg.tab (n + 2)) "ended" fun S8 => Res.ok [] S8))).bind fun b6 S7 => Res.ok (!b6) S7).bind fun b4 S5 => if b4 then Words_close_b1_0 n ρ S5 else Res.ok (Fl.next ρ) S5) (Words_close_b0_1 n) := by kernel_rfl
theorem Words_close_sem (n : Nat) (p0 : D) (S : Store) : d_Words_close.sem (pg.tab (n + 2)) [p0] S = outR .cut S (Words_close_b0_0 n [some p0] S) := by kernel_rfl
noncomputable def held_in_b0_0 (n : Nat) : EvS := exB (d_held_in.gm (pg.tab (n + 2)) false) 30 (List.drop 0 (defBody d_held_in.st))
noncomputable def held_in_b0_1 (n : Nat) : EvS := exB (d_held_in.gm (pg.tab (n + 2)) false) 30 (List.drop 1 (defBody d_held_in.st))
noncomputable def held_in_b0_2 (n : Nat) : EvS := exB (d_held_in.gm (pg.tab (n + 2)) false) 30 (List.drop 2 (defBody d_held_in.st))
noncomputable def held_in_b0_3 (n : Nat) : EvS := fun ρ S => Res.ok (Fl.next ρ) S
theorem held_in_b0_0_eq (n : Nat) (ρ : EnvD) (S : Store) : held_in_b0_0 n ρ S = seqE (((consR (getE ρ 0 S) fun S1 => Res.ok [] S1).bind (d_saying_text.sem (pg.tab (n + 1)))).bind fun d2 S3 => Res.ok (Fl.next (List.set ρ 2 (some d2))) S3) (held_in_b0_1 n) := by kernel_rfl
noncomputable def held_in_b1_0 (n : Nat) : EvS := exB (d_held_in.gm (pg.tab (n + 2)) false) 29 (List.drop 0 (ifA (at_ (defBody d_held_in.st) 1)))
noncomputable def held_in_b1_1 (n : Nat) : EvS := fun ρ S => Res.ok (Fl.next ρ) S
theorem held_in_b1_0_eq (n : Nat) (ρ : EnvD) (S : Store) : held_in_b1_0 n ρ S = seqE ((((Res.ok (D.str "(") S).bind fun d4 S5 => (getE ρ 2 S5).bind fun d6 S7 => binD .Add d4 d6 S7).bind fun d8 S9 => (Res.ok (D.str ")") S9).bind fun d10 S11 => binD .Add d8 d10 S11).bind fun d12 S13 => Res.ok (Fl.ret d12) S13) (held_in_b1_1 n) := by kernel_rfl
theorem held_in_b0_1_eq (n : Nat) (ρ : EnvD) (S : Store) : held_in_b0_1 n ρ S = seqE ((orB (andB ((((getE ρ 0 S).bind fun d18 S19 => (Res.ok (D.int 0) S19).bind fun d20 S21 => ixD d18 d20 S21).bind fun d22 S23 => (Res.ok (D.str "or") S23).bind fun d24 S25 => cmpD .Eq d22 d24 S25).bind asB) fun S17 => ((getE ρ 1 S17).bind fun d26 S27 => (Res.ok (gv "ALTERNATIVE") S27).bind fun d28 S29 => cmpD .Gt d26 d28 S29).bind asB) fun S16 => andB ((((getE ρ 0 S16).bind fun d31 S32 => (Res.ok (D.int 0) S32).bind fun d33 S34 => ixD d31 d33 S34).bind fun d35 S36 => (Res.ok (D.str "and") S36).bind fun d37 S38 => cmpD .Eq d35 d37 S38).bind asB) fun S30 => ((getE ρ 1 S30).bind fun d39 S40 => (Res.ok (gv "TOGETHER") S40).bind fun d41 S42 => cmpD .Gt d39 d41 S42).bind asB).bind fun b14 S15 => if b14 then held_in_b1_0 n ρ S15 else Res.ok (Fl.next ρ) S15) (held_in_b0_2 n) := by kernel_rfl
theorem held_in_b0_2_eq (n : Nat) (ρ : EnvD) (S : Store) : held_in_b0_2 n ρ S = seqE ((getE ρ 2 S).bind fun d43 S44 => Res.ok (Fl.ret d43) S44) (held_in_b0_3 n) := by kernel_rfl
theorem held_in_sem (n : Nat) (p0 p1 : D) (S : Store) : d_held_in.sem (pg.tab (n + 2)) [p0, p1] S = outR .cut S (held_in_b0_0 n [some p0, some p1, none] S) := by kernel_rfl
noncomputable def saying_text_b0_0 (n : Nat) : EvS := exB (d_saying_text.gm (pg.tab (n + 2)) false) 30 (List.drop 0 (defBody d_saying_text.st))
noncomputable def saying_text_b0_1 (n : Nat) : EvS := exB (d_saying_text.gm (pg.tab (n + 2)) false) 30 (List.drop 1 (defBody d_saying_text.st))
noncomputable def saying_text_b0_2 (n : Nat) : EvS := exB (d_saying_text.gm (pg.tab (n + 2)) false) 30 (List.drop 2 (defBody d_saying_text.st))
noncomputable def saying_text_b0_3 (n : Nat) : EvS := exB (d_saying_text.gm (pg.tab (n + 2)) false) 30 (List.drop 3 (defBody d_saying_text.st))
noncomputable def saying_text_b0_4 (n : Nat) : EvS := exB (d_saying_text.gm (pg.tab (n + 2)) false) 30 (List.drop 4 (defBody d_saying_text.st))
noncomputable def saying_text_b0_5 (n : Nat) : EvS := fun ρ S => Res.ok (Fl.next ρ) S
noncomputable def saying_text_b1_0 (n : Nat) : EvS := exB (d_saying_text.gm (pg.tab (n + 2)) false) 29 (List.drop 0 (ifA (at_ (defBody d_saying_text.st) 0)))
noncomputable def saying_text_b1_1 (n : Nat) : EvS := fun ρ S => Res.ok (Fl.next ρ) S
theorem saying_text_b1_0_eq (n : Nat) (ρ : EnvD) (S : Store) : saying_text_b1_0 n ρ S = seqE (((Res.ok (D.str "is ") S).bind fun d1 S2 => ((getE ρ 0 S2).bind fun d3 S4 => (Res.ok (D.int 1) S4).bind fun d5 S6 => ixD d3 d5 S6).bind fun d7 S8 => binD .Add d1 d7 S8).bind fun d9 S10 => Res.ok (Fl.ret d9) S10) (saying_text_b1_1 n) := by kernel_rfl
theorem saying_text_b0_0_eq (n : Nat) (ρ : EnvD) (S : Store) : saying_text_b0_0 n ρ S = seqE (((((getE ρ 0 S).bind fun d13 S14 => (Res.ok (D.int 0) S14).bind fun d15 S16 => ixD d13 d15 S16).bind fun d17 S18 => (Res.ok (D.str "is") S18).bind fun d19 S20 => cmpD .Eq d17 d19 S20).bind asB).bind fun b11 S12 => if b11 then saying_text_b1_0 n ρ S12 else Res.ok (Fl.next ρ) S12) (saying_text_b0_1 n) := by kernel_rfl
noncomputable def saying_text_b2_0 (n : Nat) : EvS := exB (d_saying_text.gm (pg.tab (n + 2)) false) 29 (List.drop 0 (ifA (at_ (defBody d_saying_text.st) 1)))
noncomputable def saying_text_b2_1 (n : Nat) : EvS := fun ρ S => Res.ok (Fl.next ρ) S
theorem saying_text_b2_0_eq (n : Nat) (ρ : EnvD) (S : Store) : saying_text_b2_0 n ρ S = seqE (((((consR ((getE ρ 0 S).bind fun d22 S23 => (Res.ok (D.int 1) S23).bind fun d24 S25 => ixD d22 d24 S25) fun S21 => consR (Res.ok (gv "ALTERNATIVE") S21) fun S26 => Res.ok [] S26).bind (d_held_in.sem (pg.tab (n + 1)))).bind fun d27 S28 => (Res.ok (D.str " or ") S28).bind fun d29 S30 => binD .Add d27 d29 S30).bind fun d31 S32 => ((consR ((getE ρ 0 S32).bind fun d34 S35 => (Res.ok (D.int 2) S35).bind fun d36 S37 => ixD d34 d36 S37) fun S33 => consR (Res.ok (gv "TOGETHER") S33) fun S38 => Res.ok [] S38).bind (d_held_in.sem (pg.tab (n + 1)))).bind fun d39 S40 => binD .Add d31 d39 S40).bind fun d41 S42 => Res.ok (Fl.ret d41) S42) (saying_text_b2_1 n) := by kernel_rfl
theorem saying_text_b0_1_eq (n : Nat) (ρ : EnvD) (S : Store) : saying_text_b0_1 n ρ S = seqE (((((getE ρ 0 S).bind fun d45 S46 => (Res.ok (D.int 0) S46).bind fun d47 S48 => ixD d45 d47 S48).bind fun d49 S50 => (Res.ok (D.str "or") S50).bind fun d51 S52 => cmpD .Eq d49 d51 S52).bind asB).bind fun b43 S44 => if b43 then saying_text_b2_0 n ρ S44 else Res.ok (Fl.next ρ) S44) (saying_text_b0_2 n) := by kernel_rfl
noncomputable def saying_text_b3_0 (n : Nat) : EvS := exB (d_saying_text.gm (pg.tab (n + 2)) false) 29 (List.drop 0 (ifA (at_ (defBody d_saying_text.st) 2)))
noncomputable def saying_text_b3_1 (n : Nat) : EvS := fun ρ S => Res.ok (Fl.next ρ) S
theorem saying_text_b3_0_eq (n : Nat) (ρ : EnvD) (S : Store) : saying_text_b3_0 n ρ S = seqE (((((consR ((getE ρ 0 S).bind fun d54 S55 => (Res.ok (D.int 1) S55).bind fun d56 S57 => ixD d54 d56 S57) fun S53 => consR (Res.ok (gv "TOGETHER") S53) fun S58 => Res.ok [] S58).bind (d_held_in.sem (pg.tab (n + 1)))).bind fun d59 S60 => (Res.ok (D.str " and ") S60).bind fun d61 S62 => binD .Add d59 d61 S62).bind fun d63 S64 => ((consR ((getE ρ 0 S64).bind fun d66 S67 => (Res.ok (D.int 2) S67).bind fun d68 S69 => ixD d66 d68 S69) fun S65 => consR (Res.ok (gv "HELD") S65) fun S70 => Res.ok [] S70).bind (d_held_in.sem (pg.tab (n + 1)))).bind fun d71 S72 => binD .Add d63 d71 S72).bind fun d73 S74 => Res.ok (Fl.ret d73) S74) (saying_text_b3_1 n) := by kernel_rfl
theorem saying_text_b0_2_eq (n : Nat) (ρ : EnvD) (S : Store) : saying_text_b0_2 n ρ S = seqE (((((getE ρ 0 S).bind fun d77 S78 => (Res.ok (D.int 0) S78).bind fun d79 S80 => ixD d77 d79 S80).bind fun d81 S82 => (Res.ok (D.str "and") S82).bind fun d83 S84 => cmpD .Eq d81 d83 S84).bind asB).bind fun b75 S76 => if b75 then saying_text_b3_0 n ρ S76 else Res.ok (Fl.next ρ) S76) (saying_text_b0_3 n) := by kernel_rfl
noncomputable def saying_text_b4_0 (n : Nat) : EvS := exB (d_saying_text.gm (pg.tab (n + 2)) false) 29 (List.drop 0 (ifA (at_ (defBody d_saying_text.st) 3)))
noncomputable def saying_text_b4_1 (n : Nat) : EvS := fun ρ S => Res.ok (Fl.next ρ) S
theorem saying_text_b4_0_eq (n : Nat) (ρ : EnvD) (S : Store) : saying_text_b4_0 n ρ S = seqE (((((Res.ok (D.str "at ") S).bind fun d85 S86 => ((consR ((getE ρ 0 S86).bind fun d88 S89 => (Res.ok (D.int 1) S89).bind fun d90 S91 => ixD d88 d90 S91) fun S87 => Res.ok [] S87).bind strD).bind fun d92 S93 => binD .Add d85 d92 S93).bind fun d94 S95 => (Res.ok (D.str " ") S95).bind fun d96 S97 => binD .Add d94 d96 S97).bind fun d98 S99 => ((consR ((getE ρ 0 S99).bind fun d101 S102 => (Res.ok (D.int 2) S102).bind fun d103 S104 => ixD d101 d103 S104) fun S100 => consR (Res.ok (gv "HELD") S100) fun S105 => Res.ok [] S105).bind (d_held_in.sem (pg.tab (n + 1)))).bind fun d106 S107 => binD .Add d98 d106 S107).bind fun d108 S109 => Res.ok (Fl.ret d108) S109) (saying_text_b4_1 n) := by kernel_rfl
theorem saying_text_b0_3_eq (n : Nat) (ρ : EnvD) (S : Store) : saying_text_b0_3 n ρ S = seqE (((((getE ρ 0 S).bind fun d112 S113 => (Res.ok (D.int 0) S113).bind fun d114 S115 => ixD d112 d114 S115).bind fun d116 S117 => (Res.ok (D.str "at") S117).bind fun d118 S119 => cmpD .Eq d116 d118 S119).bind asB).bind fun b110 S111 => if b110 then saying_text_b4_0 n ρ S111 else Res.ok (Fl.next ρ) S111) (saying_text_b0_4 n) := by kernel_rfl
theorem saying_text_b0_4_eq (n : Nat) (ρ : EnvD) (S : Store) : saying_text_b0_4 n ρ S = seqE (((((getE ρ 0 S).bind fun d120 S121 => (Res.ok (D.int 0) S121).bind fun d122 S123 => ixD d120 d122 S123).bind fun d124 S125 => (Res.ok (D.str " ") S125).bind fun d126 S127 => binD .Add d124 d126 S127).bind fun d128 S129 => ((consR ((getE ρ 0 S129).bind fun d131 S132 => (Res.ok (D.int 1) S132).bind fun d133 S134 => ixD d131 d133 S134) fun S130 => consR (Res.ok (gv "HELD") S130) fun S135 => Res.ok [] S135).bind (d_held_in.sem (pg.tab (n + 1)))).bind fun d136 S137 => binD .Add d128 d136 S137).bind fun d138 S139 => Res.ok (Fl.ret d138) S139) (saying_text_b0_5 n) := by kernel_rfl
theorem saying_text_sem (n : Nat) (p0 : D) (S : Store) : d_saying_text.sem (pg.tab (n + 2)) [p0] S = outR .cut S (saying_text_b0_0 n [some p0] S) := by kernel_rfl
noncomputable def read_alternative_b0_0 (n : Nat) : EvS := exB (d_read_alternative.gm (pg.tab (n + 2)) false) 30 (List.drop 0 (defBody d_read_alternative.st))
noncomputable def read_alternative_b0_1 (n : Nat) : EvS := exB (d_read_alternative.gm (pg.tab (n + 2)) false) 30 (List.drop 1 (defBody d_read_alternative.st))
noncomputable def read_alternative_b0_2 (n : Nat) : EvS := exB (d_read_alternative.gm (pg.tab (n + 2)) false) 30 (List.drop 2 (defBody d_read_alternative.st))
noncomputable def read_alternative_b0_3 (n : Nat) : EvS := fun ρ S => Res.ok (Fl.next ρ) S
theorem read_alternative_b0_0_eq (n : Nat) (ρ : EnvD) (S : Store) : read_alternative_b0_0 n ρ S = seqE (((consR (getE ρ 0 S) fun S1 => consR (getE ρ 1 S1) fun S2 => consR (getE ρ 2 S2) fun S3 => Res.ok [] S3).bind (d_read_together.sem (pg.tab (n + 1)))).bind fun d4 S5 => Res.ok (Fl.next (List.set ρ 3 (some d4))) S5) (read_alternative_b0_1 n) := by kernel_rfl
noncomputable def read_alternative_b1_0 (n : Nat) : EvS := exB (d_read_alternative.gm (pg.tab (n + 2)) false) 29 (List.drop 0 (whB (at_ (defBody d_read_alternative.st) 1)))
noncomputable def read_alternative_b1_1 (n : Nat) : EvS := exB (d_read_alternative.gm (pg.tab (n + 2)) false) 29 (List.drop 1 (whB (at_ (defBody d_read_alternative.st) 1)))
noncomputable def read_alternative_b1_2 (n : Nat) : EvS := fun ρ S => Res.ok (Fl.next ρ) S
theorem read_alternative_b1_0_eq (n : Nat) (ρ : EnvD) (S : Store) : read_alternative_b1_0 n ρ S = seqE (((getE ρ 1 S).bind (mK0 (pg.tab (n + 2)) "take" fun S6 => Res.ok [] S6)).bind fun d7 S8 => Res.ok (Fl.next ρ) S8) (read_alternative_b1_1 n) := by kernel_rfl
theorem read_alternative_b1_1_eq (n : Nat) (ρ : EnvD) (S : Store) : read_alternative_b1_1 n ρ S = seqE (((consR (Res.ok (D.str "or") S) fun S9 => consR (getE ρ 3 S9) fun S10 => consR ((consR (getE ρ 0 S10) fun S12 => consR (getE ρ 1 S12) fun S13 => consR (getE ρ 2 S13) fun S14 => Res.ok [] S14).bind (d_read_together.sem (pg.tab (n + 1)))) fun S11 => Res.ok [] S11).bind tupR).bind fun d15 S16 => Res.ok (Fl.next (List.set ρ 3 (some d15))) S16) (read_alternative_b1_2 n) := by kernel_rfl
theorem read_alternative_b0_1_eq (n : Nat) (ρ : EnvD) (S : Store) : read_alternative_b0_1 n ρ S = seqE (whileE (fun r17 S18 => (((getE r17 1 S18).bind (mK0 (pg.tab (n + 2)) "next" fun S19 => Res.ok [] S19)).bind fun d20 S21 => (Res.ok (D.str "or") S21).bind fun d22 S23 => cmpD .Eq d20 d22 S23).bind asB) (read_alternative_b1_0 n) 2000 ρ S) (read_alternative_b0_2 n) := by kernel_rfl
theorem read_alternative_b0_2_eq (n : Nat) (ρ : EnvD) (S : Store) : read_alternative_b0_2 n ρ S = seqE ((getE ρ 3 S).bind fun d24 S25 => Res.ok (Fl.ret d24) S25) (read_alternative_b0_3 n) := by kernel_rfl
theorem read_alternative_sem (n : Nat) (p0 p1 p2 : D) (S : Store) : d_read_alternative.sem (pg.tab (n + 2)) [p0, p1, p2] S = outR .cut S (read_alternative_b0_0 n [some p0, some p1, some p2, none] S) := by kernel_rfl
noncomputable def read_together_b0_0 (n : Nat) : EvS := exB (d_read_together.gm (pg.tab (n + 2)) false) 30 (List.drop 0 (defBody d_read_together.st))
noncomputable def read_together_b0_1 (n : Nat) : EvS := exB (d_read_together.gm (pg.tab (n + 2)) false) 30 (List.drop 1 (defBody d_read_together.st))
noncomputable def read_together_b0_2 (n : Nat) : EvS := exB (d_read_together.gm (pg.tab (n + 2)) false) 30 (List.drop 2 (defBody d_read_together.st))
noncomputable def read_together_b0_3 (n : Nat) : EvS := fun ρ S => Res.ok (Fl.next ρ) S
theorem read_together_b0_0_eq (n : Nat) (ρ : EnvD) (S : Store) : read_together_b0_0 n ρ S = seqE (((consR (getE ρ 0 S) fun S1 => consR (getE ρ 1 S1) fun S2 => consR (getE ρ 2 S2) fun S3 => Res.ok [] S3).bind (d_read_one.sem (pg.tab (n + 1)))).bind fun d4 S5 => Res.ok (Fl.next (List.set ρ 3 (some d4))) S5) (read_together_b0_1 n) := by kernel_rfl
noncomputable def read_together_b1_0 (n : Nat) : EvS := exB (d_read_together.gm (pg.tab (n + 2)) false) 29 (List.drop 0 (whB (at_ (defBody d_read_together.st) 1)))
noncomputable def read_together_b1_1 (n : Nat) : EvS := exB (d_read_together.gm (pg.tab (n + 2)) false) 29 (List.drop 1 (whB (at_ (defBody d_read_together.st) 1)))
noncomputable def read_together_b1_2 (n : Nat) : EvS := fun ρ S => Res.ok (Fl.next ρ) S
theorem read_together_b1_0_eq (n : Nat) (ρ : EnvD) (S : Store) : read_together_b1_0 n ρ S = seqE (((getE ρ 1 S).bind (mK0 (pg.tab (n + 2)) "take" fun S6 => Res.ok [] S6)).bind fun d7 S8 => Res.ok (Fl.next ρ) S8) (read_together_b1_1 n) := by kernel_rfl
theorem read_together_b1_1_eq (n : Nat) (ρ : EnvD) (S : Store) : read_together_b1_1 n ρ S = seqE (((consR (Res.ok (D.str "and") S) fun S9 => consR (getE ρ 3 S9) fun S10 => consR ((consR (getE ρ 0 S10) fun S12 => consR (getE ρ 1 S12) fun S13 => consR (getE ρ 2 S13) fun S14 => Res.ok [] S14).bind (d_read_one.sem (pg.tab (n + 1)))) fun S11 => Res.ok [] S11).bind tupR).bind fun d15 S16 => Res.ok (Fl.next (List.set ρ 3 (some d15))) S16) (read_together_b1_2 n) := by kernel_rfl
theorem read_together_b0_1_eq (n : Nat) (ρ : EnvD) (S : Store) : read_together_b0_1 n ρ S = seqE (whileE (fun r17 S18 => (((getE r17 1 S18).bind (mK0 (pg.tab (n + 2)) "next" fun S19 => Res.ok [] S19)).bind fun d20 S21 => (Res.ok (D.str "and") S21).bind fun d22 S23 => cmpD .Eq d20 d22 S23).bind asB) (read_together_b1_0 n) 2000 ρ S) (read_together_b0_2 n) := by kernel_rfl
theorem read_together_b0_2_eq (n : Nat) (ρ : EnvD) (S : Store) : read_together_b0_2 n ρ S = seqE ((getE ρ 3 S).bind fun d24 S25 => Res.ok (Fl.ret d24) S25) (read_together_b0_3 n) := by kernel_rfl
theorem read_together_sem (n : Nat) (p0 p1 p2 : D) (S : Store) : d_read_together.sem (pg.tab (n + 2)) [p0, p1, p2] S = outR .cut S (read_together_b0_0 n [some p0, some p1, some p2, none] S) := by kernel_rfl
noncomputable def read_maker_b0_0 (n : Nat) : EvS := exB (d_read_maker.gm (pg.tab (n + 2)) false) 30 (List.drop 0 (defBody d_read_maker.st))
noncomputable def read_maker_b0_1 (n : Nat) : EvS := exB (d_read_maker.gm (pg.tab (n + 2)) false) 30 (List.drop 1 (defBody d_read_maker.st))
noncomputable def read_maker_b0_2 (n : Nat) : EvS := fun ρ S => Res.ok (Fl.next ρ) S
noncomputable def read_maker_b1_0 (n : Nat) : EvS := exB (d_read_maker.gm (pg.tab (n + 2)) false) 29 (List.drop 0 (ifA (at_ (defBody d_read_maker.st) 0)))
noncomputable def read_maker_b1_1 (n : Nat) : EvS := fun ρ S => Res.ok (Fl.next ρ) S
theorem read_maker_b1_0_eq (n : Nat) (ρ : EnvD) (S : Store) : read_maker_b1_0 n ρ S = seqE (((getE ρ 1 S).bind (mK0 (pg.tab (n + 2)) "refuse" fun S1 => Res.ok [] S1)).bind fun d2 S3 => Res.ok (Fl.next ρ) S3) (read_maker_b1_1 n) := by kernel_rfl
theorem read_maker_b0_0_eq (n : Nat) (ρ : EnvD) (S : Store) : read_maker_b0_0 n ρ S = seqE ((orB ((truR ((consR ((getE ρ 1 S).bind (mK0 (pg.tab (n + 2)) "next" fun S10 => Res.ok [] S10)) fun S9 => Res.ok [] S9).bind (d_is_name.sem (pg.tab (n + 1))))).bind fun b7 S8 => Res.ok (!b7) S8) fun S6 => (((getE ρ 1 S6).bind (mK0 (pg.tab (n + 2)) "next" fun S11 => Res.ok [] S11)).bind fun d12 S13 => (((getE ρ 0 S13).bind iterD).bind fun p14 S15 => compR (fun x => some (List.set (wipeD ρ [2]) 2 (some x))) (fun _ S => Res.ok true S) (fun r18 S19 => (getE r18 2 S19).bind fun d20 S21 => (Res.ok (D.int 0) S21).bind fun d22 S23 => ixD d20 d22 S23) p14 S15).bind fun d24 S25 => cmpD .NotIn d12 d24 S25).bind asB).bind fun b4 S5 => if b4 then read_maker_b1_0 n ρ S5 else Res.ok (Fl.next ρ) S5) (read_maker_b0_1 n) := by kernel_rfl
theorem read_maker_b0_1_eq (n : Nat) (ρ : EnvD) (S : Store) : read_maker_b0_1 n ρ S = seqE (((getE ρ 1 S).bind (mK0 (pg.tab (n + 2)) "take" fun S26 => Res.ok [] S26)).bind fun d27 S28 => Res.ok (Fl.ret d27) S28) (read_maker_b0_2 n) := by kernel_rfl
theorem read_maker_sem (n : Nat) (p0 p1 : D) (S : Store) : d_read_maker.sem (pg.tab (n + 2)) [p0, p1] S = outR .cut S (read_maker_b0_0 n [some p0, some p1, none] S) := by kernel_rfl
noncomputable def read_one_b0_0 (n : Nat) : EvS := exB (d_read_one.gm (pg.tab (n + 2)) false) 30 (List.drop 0 (defBody d_read_one.st))
noncomputable def read_one_b0_1 (n : Nat) : EvS := exB (d_read_one.gm (pg.tab (n + 2)) false) 30 (List.drop 1 (defBody d_read_one.st))
noncomputable def read_one_b0_2 (n : Nat) : EvS := exB (d_read_one.gm (pg.tab (n + 2)) false) 30 (List.drop 2 (defBody d_read_one.st))
noncomputable def read_one_b0_3 (n : Nat) : EvS := exB (d_read_one.gm (pg.tab (n + 2)) false) 30 (List.drop 3 (defBody d_read_one.st))
noncomputable def read_one_b0_4 (n : Nat) : EvS := exB (d_read_one.gm (pg.tab (n + 2)) false) 30 (List.drop 4 (defBody d_read_one.st))
noncomputable def read_one_b0_5 (n : Nat) : EvS := exB (d_read_one.gm (pg.tab (n + 2)) false) 30 (List.drop 5 (defBody d_read_one.st))
noncomputable def read_one_b0_6 (n : Nat) : EvS := exB (d_read_one.gm (pg.tab (n + 2)) false) 30 (List.drop 6 (defBody d_read_one.st))
noncomputable def read_one_b0_7 (n : Nat) : EvS := fun ρ S => Res.ok (Fl.next ρ) S
noncomputable def read_one_b1_0 (n : Nat) : EvS := exB (d_read_one.gm (pg.tab (n + 2)) false) 29 (List.drop 0 (ifA (at_ (defBody d_read_one.st) 0)))
noncomputable def read_one_b1_1 (n : Nat) : EvS := fun ρ S => Res.ok (Fl.next ρ) S
theorem read_one_b1_0_eq (n : Nat) (ρ : EnvD) (S : Store) : read_one_b1_0 n ρ S = seqE (((getE ρ 1 S).bind (mK0 (pg.tab (n + 2)) "refuse" fun S1 => Res.ok [] S1)).bind fun d2 S3 => Res.ok (Fl.next ρ) S3) (read_one_b1_1 n) := by kernel_rfl
theorem read_one_b0_0_eq (n : Nat) (ρ : EnvD) (S : Store) : read_one_b0_0 n ρ S = seqE ((((getE ρ 2 S).bind fun d6 S7 => (Res.ok (gv "DEEPEST") S7).bind fun d8 S9 => cmpD .GtE d6 d8 S9).bind asB).bind fun b4 S5 => if b4 then read_one_b1_0 n ρ S5 else Res.ok (Fl.next ρ) S5) (read_one_b0_1 n) := by kernel_rfl
theorem read_one_b0_1_eq (n : Nat) (ρ : EnvD) (S : Store) : read_one_b0_1 n ρ S = seqE (((getE ρ 1 S).bind (mK0 (pg.tab (n + 2)) "next" fun S10 => Res.ok [] S10)).bind fun d11 S12 => Res.ok (Fl.next (List.set ρ 3 (some d11))) S12) (read_one_b0_2 n) := by kernel_rfl
noncomputable def read_one_b2_0 (n : Nat) : EvS := exB (d_read_one.gm (pg.tab (n + 2)) false) 29 (List.drop 0 (ifA (at_ (defBody d_read_one.st) 2)))
noncomputable def read_one_b2_1 (n : Nat) : EvS := exB (d_read_one.gm (pg.tab (n + 2)) false) 29 (List.drop 1 (ifA (at_ (defBody d_read_one.st) 2)))
noncomputable def read_one_b2_2 (n : Nat) : EvS := fun ρ S => Res.ok (Fl.next ρ) S
theorem read_one_b2_0_eq (n : Nat) (ρ : EnvD) (S : Store) : read_one_b2_0 n ρ S = seqE (((getE ρ 1 S).bind (mK0 (pg.tab (n + 2)) "take" fun S13 => Res.ok [] S13)).bind fun d14 S15 => Res.ok (Fl.next ρ) S15) (read_one_b2_1 n) := by kernel_rfl
theorem read_one_b2_1_eq (n : Nat) (ρ : EnvD) (S : Store) : read_one_b2_1 n ρ S = seqE (((consR (getE ρ 3 S) fun S16 => consR ((consR (getE ρ 0 S16) fun S18 => consR (getE ρ 1 S18) fun S19 => consR ((getE ρ 2 S19).bind fun d21 S22 => (Res.ok (D.int 1) S22).bind fun d23 S24 => binD .Add d21 d23 S24) fun S20 => Res.ok [] S20).bind (d_read_one.sem (pg.tab (n + 1)))) fun S17 => Res.ok [] S17).bind tupR).bind fun d25 S26 => Res.ok (Fl.ret d25) S26) (read_one_b2_2 n) := by kernel_rfl
theorem read_one_b0_2_eq (n : Nat) (ρ : EnvD) (S : Store) : read_one_b0_2 n ρ S = seqE ((((getE ρ 3 S).bind fun d29 S30 => ((consR (Res.ok (D.str "not") S30) fun S31 => consR (Res.ok (D.str "some") S31) fun S32 => consR (Res.ok (D.str "all") S32) fun S33 => Res.ok [] S33).bind tupR).bind fun d34 S35 => cmpD .In d29 d34 S35).bind asB).bind fun b27 S28 => if b27 then read_one_b2_0 n ρ S28 else Res.ok (Fl.next ρ) S28) (read_one_b0_3 n) := by kernel_rfl
noncomputable def read_one_b3_0 (n : Nat) : EvS := exB (d_read_one.gm (pg.tab (n + 2)) false) 29 (List.drop 0 (ifA (at_ (defBody d_read_one.st) 3)))
noncomputable def read_one_b3_1 (n : Nat) : EvS := exB (d_read_one.gm (pg.tab (n + 2)) false) 29 (List.drop 1 (ifA (at_ (defBody d_read_one.st) 3)))
noncomputable def read_one_b3_2 (n : Nat) : EvS := exB (d_read_one.gm (pg.tab (n + 2)) false) 29 (List.drop 2 (ifA (at_ (defBody d_read_one.st) 3)))
noncomputable def read_one_b3_3 (n : Nat) : EvS := exB (d_read_one.gm (pg.tab (n + 2)) false) 29 (List.drop 3 (ifA (at_ (defBody d_read_one.st) 3)))
noncomputable def read_one_b3_4 (n : Nat) : EvS := fun ρ S => Res.ok (Fl.next ρ) S
theorem read_one_b3_0_eq (n : Nat) (ρ : EnvD) (S : Store) : read_one_b3_0 n ρ S = seqE (((getE ρ 1 S).bind (mK0 (pg.tab (n + 2)) "take" fun S36 => Res.ok [] S36)).bind fun d37 S38 => Res.ok (Fl.next ρ) S38) (read_one_b3_1 n) := by kernel_rfl
noncomputable def read_one_b4_0 (n : Nat) : EvS := exB (d_read_one.gm (pg.tab (n + 2)) false) 28 (List.drop 0 (ifA (at_ (ifA (at_ (defBody d_read_one.st) 3)) 1)))
noncomputable def read_one_b4_1 (n : Nat) : EvS := fun ρ S => Res.ok (Fl.next ρ) S
theorem read_one_b4_0_eq (n : Nat) (ρ : EnvD) (S : Store) : read_one_b4_0 n ρ S = seqE (((getE ρ 1 S).bind (mK0 (pg.tab (n + 2)) "refuse" fun S39 => Res.ok [] S39)).bind fun d40 S41 => Res.ok (Fl.next ρ) S41) (read_one_b4_1 n) := by kernel_rfl
theorem read_one_b3_1_eq (n : Nat) (ρ : EnvD) (S : Store) : read_one_b3_1 n ρ S = seqE (((((getE ρ 1 S).bind (mK0 (pg.tab (n + 2)) "next" fun S44 => Res.ok [] S44)).bind fun d45 S46 => ((consR (Res.ok (D.str "1") S46) fun S47 => consR (Res.ok (D.str "2") S47) fun S48 => Res.ok [] S48).bind tupR).bind fun d49 S50 => cmpD .NotIn d45 d49 S50).bind asB).bind fun b42 S43 => if b42 then read_one_b4_0 n ρ S43 else Res.ok (Fl.next ρ) S43) (read_one_b3_2 n) := by kernel_rfl
theorem read_one_b3_2_eq (n : Nat) (ρ : EnvD) (S : Store) : read_one_b3_2 n ρ S = seqE (((consR ((getE ρ 1 S).bind (mK0 (pg.tab (n + 2)) "take" fun S52 => Res.ok [] S52)) fun S51 => Res.ok [] S51).bind intD).bind fun d53 S54 => Res.ok (Fl.next (List.set ρ 4 (some d53))) S54) (read_one_b3_3 n) := by kernel_rfl
theorem read_one_b3_3_eq (n : Nat) (ρ : EnvD) (S : Store) : read_one_b3_3 n ρ S = seqE (((consR (Res.ok (D.str "at") S) fun S55 => consR (getE ρ 4 S55) fun S56 => consR ((consR (getE ρ 0 S56) fun S58 => consR (getE ρ 1 S58) fun S59 => consR ((getE ρ 2 S59).bind fun d61 S62 => (Res.ok (D.int 1) S62).bind fun d63 S64 => binD .Add d61 d63 S64) fun S60 => Res.ok [] S60).bind (d_read_one.sem (pg.tab (n + 1)))) fun S57 => Res.ok [] S57).bind tupR).bind fun d65 S66 => Res.ok (Fl.ret d65) S66) (read_one_b3_4 n) := by kernel_rfl
theorem read_one_b0_3_eq (n : Nat) (ρ : EnvD) (S : Store) : read_one_b0_3 n ρ S = seqE ((((getE ρ 3 S).bind fun d69 S70 => (Res.ok (D.str "at") S70).bind fun d71 S72 => cmpD .Eq d69 d71 S72).bind asB).bind fun b67 S68 => if b67 then read_one_b3_0 n ρ S68 else Res.ok (Fl.next ρ) S68) (read_one_b0_4 n) := by kernel_rfl
noncomputable def read_one_b5_0 (n : Nat) : EvS := exB (d_read_one.gm (pg.tab (n + 2)) false) 29 (List.drop 0 (ifA (at_ (defBody d_read_one.st) 4)))
noncomputable def read_one_b5_1 (n : Nat) : EvS := exB (d_read_one.gm (pg.tab (n + 2)) false) 29 (List.drop 1 (ifA (at_ (defBody d_read_one.st) 4)))
noncomputable def read_one_b5_2 (n : Nat) : EvS := exB (d_read_one.gm (pg.tab (n + 2)) false) 29 (List.drop 2 (ifA (at_ (defBody d_read_one.st) 4)))
noncomputable def read_one_b5_3 (n : Nat) : EvS := exB (d_read_one.gm (pg.tab (n + 2)) false) 29 (List.drop 3 (ifA (at_ (defBody d_read_one.st) 4)))
noncomputable def read_one_b5_4 (n : Nat) : EvS := fun ρ S => Res.ok (Fl.next ρ) S
theorem read_one_b5_0_eq (n : Nat) (ρ : EnvD) (S : Store) : read_one_b5_0 n ρ S = seqE (((getE ρ 1 S).bind (mK0 (pg.tab (n + 2)) "take" fun S73 => Res.ok [] S73)).bind fun d74 S75 => Res.ok (Fl.next ρ) S75) (read_one_b5_1 n) := by kernel_rfl
theorem read_one_b5_1_eq (n : Nat) (ρ : EnvD) (S : Store) : read_one_b5_1 n ρ S = seqE (((consR (getE ρ 0 S) fun S76 => consR (getE ρ 1 S76) fun S77 => consR ((getE ρ 2 S77).bind fun d79 S80 => (Res.ok (D.int 1) S80).bind fun d81 S82 => binD .Add d79 d81 S82) fun S78 => Res.ok [] S78).bind (d_read_alternative.sem (pg.tab (n + 1)))).bind fun d83 S84 => Res.ok (Fl.next (List.set ρ 5 (some d83))) S84) (read_one_b5_2 n) := by kernel_rfl
theorem read_one_b5_2_eq (n : Nat) (ρ : EnvD) (S : Store) : read_one_b5_2 n ρ S = seqE (((getE ρ 1 S).bind (mK1 (pg.tab (n + 2)) "want" fun S85 => consR (Res.ok (D.str ")") S85) fun S86 => Res.ok [] S86)).bind fun d87 S88 => Res.ok (Fl.next ρ) S88) (read_one_b5_3 n) := by kernel_rfl
theorem read_one_b5_3_eq (n : Nat) (ρ : EnvD) (S : Store) : read_one_b5_3 n ρ S = seqE ((getE ρ 5 S).bind fun d89 S90 => Res.ok (Fl.ret d89) S90) (read_one_b5_4 n) := by kernel_rfl
theorem read_one_b0_4_eq (n : Nat) (ρ : EnvD) (S : Store) : read_one_b0_4 n ρ S = seqE ((((getE ρ 3 S).bind fun d93 S94 => (Res.ok (D.str "(") S94).bind fun d95 S96 => cmpD .Eq d93 d95 S96).bind asB).bind fun b91 S92 => if b91 then read_one_b5_0 n ρ S92 else Res.ok (Fl.next ρ) S92) (read_one_b0_5 n) := by kernel_rfl
theorem read_one_b0_5_eq (n : Nat) (ρ : EnvD) (S : Store) : read_one_b0_5 n ρ S = seqE (((getE ρ 1 S).bind (mK1 (pg.tab (n + 2)) "want" fun S97 => consR (Res.ok (D.str "is") S97) fun S98 => Res.ok [] S98)).bind fun d99 S100 => Res.ok (Fl.next ρ) S100) (read_one_b0_6 n) := by kernel_rfl
theorem read_one_b0_6_eq (n : Nat) (ρ : EnvD) (S : Store) : read_one_b0_6 n ρ S = seqE (((consR (Res.ok (D.str "is") S) fun S101 => consR ((consR (getE ρ 0 S101) fun S103 => consR (getE ρ 1 S103) fun S104 => Res.ok [] S104).bind (d_read_maker.sem (pg.tab (n + 1)))) fun S102 => Res.ok [] S102).bind tupR).bind fun d105 S106 => Res.ok (Fl.ret d105) S106) (read_one_b0_7 n) := by kernel_rfl
theorem read_one_sem (n : Nat) (p0 p1 p2 : D) (S : Store) : d_read_one.sem (pg.tab (n + 2)) [p0, p1, p2] S = outR .cut S (read_one_b0_0 n [some p0, some p1, some p2, none, none, none] S) := by kernel_rfl
noncomputable def read_saying_b0_0 (n : Nat) : EvS := exB (d_read_saying.gm (pg.tab (n + 2)) false) 30 (List.drop 0 (defBody d_read_saying.st))
noncomputable def read_saying_b0_1 (n : Nat) : EvS := exB (d_read_saying.gm (pg.tab (n + 2)) false) 30 (List.drop 1 (defBody d_read_saying.st))
noncomputable def read_saying_b0_2 (n : Nat) : EvS := exB (d_read_saying.gm (pg.tab (n + 2)) false) 30 (List.drop 2 (defBody d_read_saying.st))
noncomputable def read_saying_b0_3 (n : Nat) : EvS := exB (d_read_saying.gm (pg.tab (n + 2)) false) 30 (List.drop 3 (defBody d_read_saying.st))
noncomputable def read_saying_b0_4 (n : Nat) : EvS := fun ρ S => Res.ok (Fl.next ρ) S
theorem read_saying_b0_0_eq (n : Nat) (ρ : EnvD) (S : Store) : read_saying_b0_0 n ρ S = seqE (((consR (Res.ok (D.int 0) S) fun S1 => consR ((consR (getE ρ 1 S1) fun S3 => Res.ok [] S3).bind (d_words_in.sem (pg.tab (n + 1)))) fun S2 => Res.ok [] S2).bind (makeE (d_Words___init__.sem (pg.tab n)) "Words")).bind fun d4 S5 => Res.ok (Fl.next (List.set ρ 2 (some d4))) S5) (read_saying_b0_1 n) := by kernel_rfl
theorem read_saying_b0_1_eq (n : Nat) (ρ : EnvD) (S : Store) : read_saying_b0_1 n ρ S = seqE (((consR (getE ρ 0 S) fun S6 => consR (getE ρ 2 S6) fun S7 => consR (Res.ok (D.int 0) S7) fun S8 => Res.ok [] S8).bind (d_read_alternative.sem (pg.tab (n + 1)))).bind fun d9 S10 => Res.ok (Fl.next (List.set ρ 3 (some d9))) S10) (read_saying_b0_2 n) := by kernel_rfl
theorem read_saying_b0_2_eq (n : Nat) (ρ : EnvD) (S : Store) : read_saying_b0_2 n ρ S = seqE (((getE ρ 2 S).bind (mK0 (pg.tab (n + 2)) "close" fun S11 => Res.ok [] S11)).bind fun d12 S13 => Res.ok (Fl.next ρ) S13) (read_saying_b0_3 n) := by kernel_rfl
theorem read_saying_b0_3_eq (n : Nat) (ρ : EnvD) (S : Store) : read_saying_b0_3 n ρ S = seqE ((getE ρ 3 S).bind fun d14 S15 => Res.ok (Fl.ret d14) S15) (read_saying_b0_4 n) := by kernel_rfl
theorem read_saying_sem (n : Nat) (p0 p1 : D) (S : Store) : d_read_saying.sem (pg.tab (n + 2)) [p0, p1] S = outR .cut S (read_saying_b0_0 n [some p0, some p1, none, none] S) := by kernel_rfl
noncomputable def _law_same_b0_0 (n : Nat) : EvS := exB (d__law_same.gm (pg.tab (n + 2)) false) 30 (List.drop 0 (defBody d__law_same.st))
noncomputable def _law_same_b0_1 (n : Nat) : EvS := exB (d__law_same.gm (pg.tab (n + 2)) false) 30 (List.drop 1 (defBody d__law_same.st))
noncomputable def _law_same_b0_2 (n : Nat) : EvS := exB (d__law_same.gm (pg.tab (n + 2)) false) 30 (List.drop 2 (defBody d__law_same.st))
noncomputable def _law_same_b0_3 (n : Nat) : EvS := exB (d__law_same.gm (pg.tab (n + 2)) false) 30 (List.drop 3 (defBody d__law_same.st))
noncomputable def _law_same_b0_4 (n : Nat) : EvS := exB (d__law_same.gm (pg.tab (n + 2)) false) 30 (List.drop 4 (defBody d__law_same.st))
noncomputable def _law_same_b0_5 (n : Nat) : EvS := exB (d__law_same.gm (pg.tab (n + 2)) false) 30 (List.drop 5 (defBody d__law_same.st))
noncomputable def _law_same_b0_6 (n : Nat) : EvS := exB (d__law_same.gm (pg.tab (n + 2)) false) 30 (List.drop 6 (defBody d__law_same.st))
noncomputable def _law_same_b0_7 (n : Nat) : EvS := fun ρ S => Res.ok (Fl.next ρ) S
noncomputable def _law_same_b1_0 (n : Nat) : EvS := exB (d__law_same.gm (pg.tab (n + 2)) false) 29 (List.drop 0 (ifA (at_ (defBody d__law_same.st) 0)))
noncomputable def _law_same_b1_1 (n : Nat) : EvS := fun ρ S => Res.ok (Fl.next ρ) S
theorem _law_same_b1_0_eq (n : Nat) (ρ : EnvD) (S : Store) : _law_same_b1_0 n ρ S = seqE ((andR ((getE ρ 1 S).bind fun d2 S3 => isiD "bool" [d2] S3) fun S1 => andR ((getE ρ 0 S1).bind fun d5 S6 => isiD "bool" [d5] S6) fun S4 => (getE ρ 0 S4).bind fun d7 S8 => (getE ρ 1 S8).bind fun d9 S10 => cmpD .Eq d7 d9 S10).bind fun d11 S12 => Res.ok (Fl.ret d11) S12) (_law_same_b1_1 n) := by kernel_rfl
theorem _law_same_b0_0_eq (n : Nat) (ρ : EnvD) (S : Store) : _law_same_b0_0 n ρ S = seqE ((orB (truR ((getE ρ 1 S).bind fun d16 S17 => isiD "bool" [d16] S17)) fun S15 => truR ((getE ρ 0 S15).bind fun d18 S19 => isiD "bool" [d18] S19)).bind fun b13 S14 => if b13 then _law_same_b1_0 n ρ S14 else Res.ok (Fl.next ρ) S14) (_law_same_b0_1 n) := by kernel_rfl
noncomputable def _law_same_b2_0 (n : Nat) : EvS := exB (d__law_same.gm (pg.tab (n + 2)) false) 29 (List.drop 0 (ifA (at_ (defBody d__law_same.st) 1)))
noncomputable def _law_same_b2_1 (n : Nat) : EvS := fun ρ S => Res.ok (Fl.next ρ) S
theorem _law_same_b2_0_eq (n : Nat) (ρ : EnvD) (S : Store) : _law_same_b2_0 n ρ S = seqE ((andR ((getE ρ 0 S).bind fun d21 S22 => (getE ρ 1 S22).bind fun d23 S24 => cmpD .Eq d21 d23 S24) fun S20 => orR ((getE ρ 1 S20).bind fun d26 S27 => (Res.ok D.non S27).bind fun d28 S29 => cmpD .Is d26 d28 S29) fun S25 => (getE ρ 0 S25).bind fun d30 S31 => isiD "int" [d30] S31).bind fun d32 S33 => Res.ok (Fl.ret d32) S33) (_law_same_b2_1 n) := by kernel_rfl
theorem _law_same_b0_1_eq (n : Nat) (ρ : EnvD) (S : Store) : _law_same_b0_1 n ρ S = seqE ((orB (((getE ρ 1 S).bind fun d37 S38 => (Res.ok D.non S38).bind fun d39 S40 => cmpD .Is d37 d39 S40).bind asB) fun S36 => truR ((getE ρ 1 S36).bind fun d41 S42 => isiD "int" [d41] S42)).bind fun b34 S35 => if b34 then _law_same_b2_0 n ρ S35 else Res.ok (Fl.next ρ) S35) (_law_same_b0_2 n) := by kernel_rfl
noncomputable def _law_same_b3_0 (n : Nat) : EvS := exB (d__law_same.gm (pg.tab (n + 2)) false) 29 (List.drop 0 (ifA (at_ (defBody d__law_same.st) 2)))
noncomputable def _law_same_b3_1 (n : Nat) : EvS := fun ρ S => Res.ok (Fl.next ρ) S
theorem _law_same_b3_0_eq (n : Nat) (ρ : EnvD) (S : Store) : _law_same_b3_0 n ρ S = seqE ((andR ((getE ρ 0 S).bind fun d44 S45 => isiD "str" [d44] S45) fun S43 => (getE ρ 0 S43).bind fun d46 S47 => (getE ρ 1 S47).bind fun d48 S49 => cmpD .Eq d46 d48 S49).bind fun d50 S51 => Res.ok (Fl.ret d50) S51) (_law_same_b3_1 n) := by kernel_rfl
theorem _law_same_b0_2_eq (n : Nat) (ρ : EnvD) (S : Store) : _law_same_b0_2 n ρ S = seqE ((truR ((getE ρ 1 S).bind fun d54 S55 => isiD "str" [d54] S55)).bind fun b52 S53 => if b52 then _law_same_b3_0 n ρ S53 else Res.ok (Fl.next ρ) S53) (_law_same_b0_3 n) := by kernel_rfl
noncomputable def _law_same_b4_0 (n : Nat) : EvS := exB (d__law_same.gm (pg.tab (n + 2)) false) 29 (List.drop 0 (ifA (at_ (defBody d__law_same.st) 3)))
noncomputable def _law_same_b4_1 (n : Nat) : EvS := fun ρ S => Res.ok (Fl.next ρ) S
theorem _law_same_b4_0_eq (n : Nat) (ρ : EnvD) (S : Store) : _law_same_b4_0 n ρ S = seqE ((Res.ok (D.bl false) S).bind fun d56 S57 => Res.ok (Fl.ret d56) S57) (_law_same_b4_1 n) := by kernel_rfl
theorem _law_same_b0_3_eq (n : Nat) (ρ : EnvD) (S : Store) : _law_same_b0_3 n ρ S = seqE ((orB ((((getE ρ 1 S).bind fun d61 S62 => isiD "list" [d61] S62).bind fun d63 S64 => ((getE ρ 0 S64).bind fun d65 S66 => isiD "list" [d65] S66).bind fun d67 S68 => cmpD .NotEq d63 d67 S68).bind asB) fun S60 => (((getE ρ 1 S60).bind fun d69 S70 => isiD "tuple" [d69] S70).bind fun d71 S72 => ((getE ρ 0 S72).bind fun d73 S74 => isiD "tuple" [d73] S74).bind fun d75 S76 => cmpD .NotEq d71 d75 S76).bind asB).bind fun b58 S59 => if b58 then _law_same_b4_0 n ρ S59 else Res.ok (Fl.next ρ) S59) (_law_same_b0_4 n) := by kernel_rfl
noncomputable def _law_same_b5_0 (n : Nat) : EvS := exB (d__law_same.gm (pg.tab (n + 2)) false) 29 (List.drop 0 (ifA (at_ (defBody d__law_same.st) 4)))
noncomputable def _law_same_b5_1 (n : Nat) : EvS := fun ρ S => Res.ok (Fl.next ρ) S
theorem _law_same_b5_0_eq (n : Nat) (ρ : EnvD) (S : Store) : _law_same_b5_0 n ρ S = seqE ((Res.ok (D.bl false) S).bind fun d77 S78 => Res.ok (Fl.ret d77) S78) (_law_same_b5_1 n) := by kernel_rfl
theorem _law_same_b0_4_eq (n : Nat) (ρ : EnvD) (S : Store) : _law_same_b0_4 n ρ S = seqE (((((consR (getE ρ 0 S) fun S81 => Res.ok [] S81).bind lenD).bind fun d82 S83 => ((consR (getE ρ 1 S83) fun S84 => Res.ok [] S84).bind lenD).bind fun d85 S86 => cmpD .NotEq d82 d85 S86).bind asB).bind fun b79 S80 => if b79 then _law_same_b5_0 n ρ S80 else Res.ok (Fl.next ρ) S80) (_law_same_b0_5 n) := by kernel_rfl
noncomputable def _law_same_b6_0 (n : Nat) : EvS := exB (d__law_same.gm (pg.tab (n + 2)) false) 29 (List.drop 0 (forB (at_ (defBody d__law_same.st) 5)))
noncomputable def _law_same_b6_1 (n : Nat) : EvS := fun ρ S => Res.ok (Fl.next ρ) S
noncomputable def _law_same_b7_0 (n : Nat) : EvS := exB (d__law_same.gm (pg.tab (n + 2)) false) 28 (List.drop 0 (ifA (at_ (forB (at_ (defBody d__law_same.st) 5)) 0)))
noncomputable def _law_same_b7_1 (n : Nat) : EvS := fun ρ S => Res.ok (Fl.next ρ) S
theorem _law_same_b7_0_eq (n : Nat) (ρ : EnvD) (S : Store) : _law_same_b7_0 n ρ S = seqE ((Res.ok (D.bl false) S).bind fun d87 S88 => Res.ok (Fl.ret d87) S88) (_law_same_b7_1 n) := by kernel_rfl
theorem _law_same_b6_0_eq (n : Nat) (ρ : EnvD) (S : Store) : _law_same_b6_0 n ρ S = seqE (((truR ((consR ((getE ρ 0 S).bind fun d94 S95 => (getE ρ 2 S95).bind fun d96 S97 => ixD d94 d96 S97) fun S93 => consR ((getE ρ 1 S93).bind fun d99 S100 => (getE ρ 2 S100).bind fun d101 S102 => ixD d99 d101 S102) fun S98 => Res.ok [] S98).bind (d__law_same.sem (pg.tab (n + 1))))).bind fun b91 S92 => Res.ok (!b91) S92).bind fun b89 S90 => if b89 then _law_same_b7_0 n ρ S90 else Res.ok (Fl.next ρ) S90) (_law_same_b6_1 n) := by kernel_rfl
theorem _law_same_b0_5_eq (n : Nat) (ρ : EnvD) (S : Store) : _law_same_b0_5 n ρ S = seqE ((((consR (getE ρ 1 S) fun S105 => Res.ok [] S105).bind lenD).bind rng1).bind fun p103 S104 => forE (fun x r => some (List.set r 2 (some x))) (_law_same_b6_0 n) p103.2 p103.1 p103.1 ρ S104) (_law_same_b0_6 n) := by kernel_rfl
theorem _law_same_b0_6_eq (n : Nat) (ρ : EnvD) (S : Store) : _law_same_b0_6 n ρ S = seqE ((Res.ok (D.bl true) S).bind fun d106 S107 => Res.ok (Fl.ret d106) S107) (_law_same_b0_7 n) := by kernel_rfl
theorem _law_same_sem (n : Nat) (p0 p1 : D) (S : Store) : d__law_same.sem (pg.tab (n + 2)) [p0, p1] S = outR .cut S (_law_same_b0_0 n [some p0, some p1, none] S) := by kernel_rfl
noncomputable def _law_number_b0_0 (n : Nat) : EvS := exB (d__law_number.gm (pg.tab (n + 2)) false) 30 (List.drop 0 (defBody d__law_number.st))
noncomputable def _law_number_b0_1 (n : Nat) : EvS := exB (d__law_number.gm (pg.tab (n + 2)) false) 30 (List.drop 1 (defBody d__law_number.st))
noncomputable def _law_number_b0_2 (n : Nat) : EvS := exB (d__law_number.gm (pg.tab (n + 2)) false) 30 (List.drop 2 (defBody d__law_number.st))
noncomputable def _law_number_b0_3 (n : Nat) : EvS := fun ρ S => Res.ok (Fl.next ρ) S
theorem _law_number_b0_0_eq (n : Nat) (ρ : EnvD) (S : Store) : _law_number_b0_0 n ρ S = seqE (((((consR (getE ρ 0 S) fun S1 => Res.ok [] S1).bind sumD).bind fun d2 S3 => (Res.ok (D.int 31) S3).bind fun d4 S5 => binD .Mult d2 d4 S5).bind fun d6 S7 => ((Res.ok (D.int 1000003) S7).bind fun d8 S9 => ((getE ρ 1 S9).bind fun d10 S11 => (Res.ok (D.int 1) S11).bind fun d12 S13 => binD .Add d10 d12 S13).bind fun d14 S15 => binD .Mult d8 d14 S15).bind fun d16 S17 => binD .Add d6 d16 S17).bind fun d18 S19 => Res.ok (Fl.next (List.set ρ 2 (some d18))) S19) (_law_number_b0_1 n) := by kernel_rfl
noncomputable def _law_number_b1_0 (n : Nat) : EvS := exB (d__law_number.gm (pg.tab (n + 2)) false) 29 (List.drop 0 (ifA (at_ (defBody d__law_number.st) 1)))
noncomputable def _law_number_b1_1 (n : Nat) : EvS := fun ρ S => Res.ok (Fl.next ρ) S
theorem _law_number_b1_0_eq (n : Nat) (ρ : EnvD) (S : Store) : _law_number_b1_0 n ρ S = seqE (((getE ρ 0 S).bind fun d20 S21 => (getE ρ 1 S21).bind fun d22 S23 => ixD d20 d22 S23).bind fun d24 S25 => Res.ok (Fl.next (List.set ρ 2 (some d24))) S25) (_law_number_b1_1 n) := by kernel_rfl
theorem _law_number_b0_1_eq (n : Nat) (ρ : EnvD) (S : Store) : _law_number_b0_1 n ρ S = seqE ((((getE ρ 1 S).bind fun d28 S29 => ((consR (getE ρ 0 S29) fun S30 => Res.ok [] S30).bind lenD).bind fun d31 S32 => cmpD .Lt d28 d31 S32).bind asB).bind fun b26 S27 => if b26 then _law_number_b1_0 n ρ S27 else Res.ok (Fl.next ρ) S27) (_law_number_b0_2 n) := by kernel_rfl
theorem _law_number_b0_2_eq (n : Nat) (ρ : EnvD) (S : Store) : _law_number_b0_2 n ρ S = seqE (((consR (getE ρ 2 S) fun S33 => Res.ok [] S33).bind absD).bind fun d34 S35 => Res.ok (Fl.ret d34) S35) (_law_number_b0_3 n) := by kernel_rfl
theorem _law_number_sem (n : Nat) (p0 p1 : D) (S : Store) : d__law_number.sem (pg.tab (n + 2)) [p0, p1] S = outR .cut S (_law_number_b0_0 n [some p0, some p1, none] S) := by kernel_rfl
noncomputable def _law_draws_b0_0 (n : Nat) : EvS := exB (d__law_draws.gm (pg.tab (n + 2)) false) 30 (List.drop 0 (defBody d__law_draws.st))
noncomputable def _law_draws_b0_1 (n : Nat) : EvS := exB (d__law_draws.gm (pg.tab (n + 2)) false) 30 (List.drop 1 (defBody d__law_draws.st))
noncomputable def _law_draws_b0_2 (n : Nat) : EvS := exB (d__law_draws.gm (pg.tab (n + 2)) false) 30 (List.drop 2 (defBody d__law_draws.st))
noncomputable def _law_draws_b0_3 (n : Nat) : EvS := exB (d__law_draws.gm (pg.tab (n + 2)) false) 30 (List.drop 3 (defBody d__law_draws.st))
noncomputable def _law_draws_b0_4 (n : Nat) : EvS := exB (d__law_draws.gm (pg.tab (n + 2)) false) 30 (List.drop 4 (defBody d__law_draws.st))
noncomputable def _law_draws_b0_5 (n : Nat) : EvS := exB (d__law_draws.gm (pg.tab (n + 2)) false) 30 (List.drop 5 (defBody d__law_draws.st))
noncomputable def _law_draws_b0_6 (n : Nat) : EvS := fun ρ S => Res.ok (Fl.next ρ) S
theorem _law_draws_b0_0_eq (n : Nat) (ρ : EnvD) (S : Store) : _law_draws_b0_0 n ρ S = seqE (((consR (getE ρ 0 S) fun S1 => consR (getE ρ 1 S1) fun S2 => Res.ok [] S2).bind (d__law_number.sem (pg.tab (n + 1)))).bind fun d3 S4 => Res.ok (Fl.next (List.set ρ 4 (some d3))) S4) (_law_draws_b0_1 n) := by kernel_rfl
theorem _law_draws_b0_1_eq (n : Nat) (ρ : EnvD) (S : Store) : _law_draws_b0_1 n ρ S = seqE (((Res.ok [] S).bind lstR).bind fun d5 S6 => Res.ok (Fl.next (List.set ρ 5 (some d5))) S6) (_law_draws_b0_2 n) := by kernel_rfl
noncomputable def _law_draws_b1_0 (n : Nat) : EvS := exB (d__law_draws.gm (pg.tab (n + 2)) false) 29 (List.drop 0 (ifA (at_ (defBody d__law_draws.st) 2)))
noncomputable def _law_draws_b1_1 (n : Nat) : EvS := exB (d__law_draws.gm (pg.tab (n + 2)) false) 29 (List.drop 1 (ifA (at_ (defBody d__law_draws.st) 2)))
noncomputable def _law_draws_b1_2 (n : Nat) : EvS := exB (d__law_draws.gm (pg.tab (n + 2)) false) 29 (List.drop 2 (ifA (at_ (defBody d__law_draws.st) 2)))
noncomputable def _law_draws_b1_3 (n : Nat) : EvS := fun ρ S => Res.ok (Fl.next ρ) S
theorem _law_draws_b1_0_eq (n : Nat) (ρ : EnvD) (S : Store) : _law_draws_b1_0 n ρ S = seqE (((getE ρ 4 S).bind fun d7 S8 => ((Res.ok (D.int 10) S8).bind fun d9 S10 => (Res.ok (D.int 18) S10).bind fun d11 S12 => binD .Pow d9 d11 S12).bind fun d13 S14 => binD .Sub d7 d13 S14).bind fun d15 S16 => Res.ok (Fl.next (List.set ρ 4 (some d15))) S16) (_law_draws_b1_1 n) := by kernel_rfl
noncomputable def _law_draws_b2_0 (n : Nat) : EvS := exB (d__law_draws.gm (pg.tab (n + 2)) false) 28 (List.drop 0 (forB (at_ (ifA (at_ (defBody d__law_draws.st) 2)) 1)))
noncomputable def _law_draws_b2_1 (n : Nat) : EvS := exB (d__law_draws.gm (pg.tab (n + 2)) false) 28 (List.drop 1 (forB (at_ (ifA (at_ (defBody d__law_draws.st) 2)) 1)))
noncomputable def _law_draws_b2_2 (n : Nat) : EvS := fun ρ S => Res.ok (Fl.next ρ) S
theorem _law_draws_b2_0_eq (n : Nat) (ρ : EnvD) (S : Store) : _law_draws_b2_0 n ρ S = seqE (((getE ρ 5 S).bind (mK1 (pg.tab (n + 2)) "append" fun S17 => consR ((getE ρ 4 S17).bind fun d19 S20 => (getE ρ 3 S20).bind fun d21 S22 => binD .Mod d19 d21 S22) fun S18 => Res.ok [] S18)).bind fun d23 S24 => Res.ok (Fl.next ρ) S24) (_law_draws_b2_1 n) := by kernel_rfl
theorem _law_draws_b2_1_eq (n : Nat) (ρ : EnvD) (S : Store) : _law_draws_b2_1 n ρ S = seqE (((getE ρ 4 S).bind fun d25 S26 => (getE ρ 3 S26).bind fun d27 S28 => binD .FloorDiv d25 d27 S28).bind fun d29 S30 => Res.ok (Fl.next (List.set ρ 4 (some d29))) S30) (_law_draws_b2_2 n) := by kernel_rfl
theorem _law_draws_b1_1_eq (n : Nat) (ρ : EnvD) (S : Store) : _law_draws_b1_1 n ρ S = seqE (((getE ρ 2 S).bind rng1).bind fun p31 S32 => forE (fun x r => some (List.set r 6 (some x))) (_law_draws_b2_0 n) p31.2 p31.1 p31.1 ρ S32) (_law_draws_b1_2 n) := by kernel_rfl
theorem _law_draws_b1_2_eq (n : Nat) (ρ : EnvD) (S : Store) : _law_draws_b1_2 n ρ S = seqE ((getE ρ 5 S).bind fun d33 S34 => Res.ok (Fl.ret d33) S34) (_law_draws_b1_3 n) := by kernel_rfl
theorem _law_draws_b0_2_eq (n : Nat) (ρ : EnvD) (S : Store) : _law_draws_b0_2 n ρ S = seqE ((((getE ρ 4 S).bind fun d37 S38 => ((Res.ok (D.int 10) S38).bind fun d39 S40 => (Res.ok (D.int 18) S40).bind fun d41 S42 => binD .Pow d39 d41 S42).bind fun d43 S44 => cmpD .GtE d37 d43 S44).bind asB).bind fun b35 S36 => if b35 then _law_draws_b1_0 n ρ S36 else Res.ok (Fl.next ρ) S36) (_law_draws_b0_3 n) := by kernel_rfl
theorem _law_draws_b0_3_eq (n : Nat) (ρ : EnvD) (S : Store) : _law_draws_b0_3 n ρ S = seqE ((((getE ρ 4 S).bind fun d45 S46 => (Res.ok (D.int 2147483647) S46).bind fun d47 S48 => binD .Mod d45 d47 S48).bind fun d49 S50 => (Res.ok (D.int 1) S50).bind fun d51 S52 => binD .Add d49 d51 S52).bind fun d53 S54 => Res.ok (Fl.next (List.set ρ 7 (some d53))) S54) (_law_draws_b0_4 n) := by kernel_rfl
noncomputable def _law_draws_b3_0 (n : Nat) : EvS := exB (d__law_draws.gm (pg.tab (n + 2)) false) 29 (List.drop 0 (forB (at_ (defBody d__law_draws.st) 4)))
noncomputable def _law_draws_b3_1 (n : Nat) : EvS := exB (d__law_draws.gm (pg.tab (n + 2)) false) 29 (List.drop 1 (forB (at_ (defBody d__law_draws.st) 4)))
noncomputable def _law_draws_b3_2 (n : Nat) : EvS := exB (d__law_draws.gm (pg.tab (n + 2)) false) 29 (List.drop 2 (forB (at_ (defBody d__law_draws.st) 4)))
noncomputable def _law_draws_b3_3 (n : Nat) : EvS := fun ρ S => Res.ok (Fl.next ρ) S
theorem _law_draws_b3_0_eq (n : Nat) (ρ : EnvD) (S : Store) : _law_draws_b3_0 n ρ S = seqE ((((((getE ρ 7 S).bind fun d55 S56 => (Res.ok (D.int 48271) S56).bind fun d57 S58 => binD .Mult d55 d57 S58).bind fun d59 S60 => ((Res.ok (D.int 11) S60).bind fun d61 S62 => (getE ρ 6 S62).bind fun d63 S64 => binD .Mult d61 d63 S64).bind fun d65 S66 => binD .Add d59 d65 S66).bind fun d67 S68 => (Res.ok (D.int 7) S68).bind fun d69 S70 => binD .Add d67 d69 S70).bind fun d71 S72 => (Res.ok (D.int 2147483647) S72).bind fun d73 S74 => binD .Mod d71 d73 S74).bind fun d75 S76 => Res.ok (Fl.next (List.set ρ 7 (some d75))) S76) (_law_draws_b3_1 n) := by kernel_rfl
theorem _law_draws_b3_1_eq (n : Nat) (ρ : EnvD) (S : Store) : _law_draws_b3_1 n ρ S = seqE ((((((getE ρ 7 S).bind fun d77 S78 => (getE ρ 7 S78).bind fun d79 S80 => binD .Mult d77 d79 S80).bind fun d81 S82 => ((Res.ok (D.int 69621) S82).bind fun d83 S84 => (getE ρ 6 S84).bind fun d85 S86 => binD .Mult d83 d85 S86).bind fun d87 S88 => binD .Add d81 d87 S88).bind fun d89 S90 => (Res.ok (D.int 5) S90).bind fun d91 S92 => binD .Add d89 d91 S92).bind fun d93 S94 => (Res.ok (D.int 2147483629) S94).bind fun d95 S96 => binD .Mod d93 d95 S96).bind fun d97 S98 => Res.ok (Fl.next (List.set ρ 8 (some d97))) S98) (_law_draws_b3_2 n) := by kernel_rfl
theorem _law_draws_b3_2_eq (n : Nat) (ρ : EnvD) (S : Store) : _law_draws_b3_2 n ρ S = seqE (((getE ρ 5 S).bind (mK1 (pg.tab (n + 2)) "append" fun S99 => consR (((getE ρ 8 S99).bind fun d101 S102 => (Res.ok (D.int 64) S102).bind fun d103 S104 => binD .FloorDiv d101 d103 S104).bind fun d105 S106 => (getE ρ 3 S106).bind fun d107 S108 => binD .Mod d105 d107 S108) fun S100 => Res.ok [] S100)).bind fun d109 S110 => Res.ok (Fl.next ρ) S110) (_law_draws_b3_3 n) := by kernel_rfl
theorem _law_draws_b0_4_eq (n : Nat) (ρ : EnvD) (S : Store) : _law_draws_b0_4 n ρ S = seqE (((getE ρ 2 S).bind rng1).bind fun p111 S112 => forE (fun x r => some (List.set r 6 (some x))) (_law_draws_b3_0 n) p111.2 p111.1 p111.1 ρ S112) (_law_draws_b0_5 n) := by kernel_rfl
theorem _law_draws_b0_5_eq (n : Nat) (ρ : EnvD) (S : Store) : _law_draws_b0_5 n ρ S = seqE ((getE ρ 5 S).bind fun d113 S114 => Res.ok (Fl.ret d113) S114) (_law_draws_b0_6 n) := by kernel_rfl
theorem _law_draws_sem (n : Nat) (p0 p1 p2 p3 : D) (S : Store) : d__law_draws.sem (pg.tab (n + 2)) [p0, p1, p2, p3] S = outR .cut S (_law_draws_b0_0 n [some p0, some p1, some p2, some p3, none, none, none, none, none] S) := by kernel_rfl
noncomputable def _law_pick_b0_0 (n : Nat) : EvS := exB (d__law_pick.gm (pg.tab (n + 2)) false) 30 (List.drop 0 (defBody d__law_pick.st))
noncomputable def _law_pick_b0_1 (n : Nat) : EvS := exB (d__law_pick.gm (pg.tab (n + 2)) false) 30 (List.drop 1 (defBody d__law_pick.st))
noncomputable def _law_pick_b0_2 (n : Nat) : EvS := fun ρ S => Res.ok (Fl.next ρ) S
noncomputable def _law_pick_b1_0 (n : Nat) : EvS := exB (d__law_pick.gm (pg.tab (n + 2)) false) 29 (List.drop 0 (ifA (at_ (defBody d__law_pick.st) 0)))
noncomputable def _law_pick_b1_1 (n : Nat) : EvS := fun ρ S => Res.ok (Fl.next ρ) S
theorem _law_pick_b1_0_eq (n : Nat) (ρ : EnvD) (S : Store) : _law_pick_b1_0 n ρ S = seqE ((Res.ok (D.int 0) S).bind fun d1 S2 => Res.ok (Fl.ret d1) S2) (_law_pick_b1_1 n) := by kernel_rfl
theorem _law_pick_b0_0_eq (n : Nat) (ρ : EnvD) (S : Store) : _law_pick_b0_0 n ρ S = seqE (((((consR (getE ρ 0 S) fun S5 => Res.ok [] S5).bind lenD).bind fun d6 S7 => (Res.ok (D.int 0) S7).bind fun d8 S9 => cmpD .Eq d6 d8 S9).bind asB).bind fun b3 S4 => if b3 then _law_pick_b1_0 n ρ S4 else Res.ok (Fl.next ρ) S4) (_law_pick_b0_1 n) := by kernel_rfl
theorem _law_pick_b0_1_eq (n : Nat) (ρ : EnvD) (S : Store) : _law_pick_b0_1 n ρ S = seqE (((getE ρ 0 S).bind (mK0 (pg.tab (n + 2)) "pop" fun S10 => Res.ok [] S10)).bind fun d11 S12 => Res.ok (Fl.ret d11) S12) (_law_pick_b0_2 n) := by kernel_rfl
theorem _law_pick_sem (n : Nat) (p0 : D) (S : Store) : d__law_pick.sem (pg.tab (n + 2)) [p0] S = outR .cut S (_law_pick_b0_0 n [some p0] S) := by kernel_rfl
noncomputable def _law_picks_b0_0 (n : Nat) : EvS := exB (d__law_picks.gm (pg.tab (n + 2)) false) 30 (List.drop 0 (defBody d__law_picks.st))
noncomputable def _law_picks_b0_1 (n : Nat) : EvS := exB (d__law_picks.gm (pg.tab (n + 2)) false) 30 (List.drop 1 (defBody d__law_picks.st))
noncomputable def _law_picks_b0_2 (n : Nat) : EvS := exB (d__law_picks.gm (pg.tab (n + 2)) false) 30 (List.drop 2 (defBody d__law_picks.st))
noncomputable def _law_picks_b0_3 (n : Nat) : EvS := fun ρ S => Res.ok (Fl.next ρ) S
theorem _law_picks_b0_0_eq (n : Nat) (ρ : EnvD) (S : Store) : _law_picks_b0_0 n ρ S = seqE (((consR (getE ρ 0 S) fun S1 => consR (getE ρ 1 S1) fun S2 => consR (getE ρ 2 S2) fun S3 => consR (Res.ok (D.int 5040) S3) fun S4 => Res.ok [] S4).bind (d__law_draws.sem (pg.tab (n + 1)))).bind fun d5 S6 => Res.ok (Fl.next (List.set ρ 3 (some d5))) S6) (_law_picks_b0_1 n) := by kernel_rfl
theorem _law_picks_b0_1_eq (n : Nat) (ρ : EnvD) (S : Store) : _law_picks_b0_1 n ρ S = seqE (((getE ρ 3 S).bind (mK0 (pg.tab (n + 2)) "reverse" fun S7 => Res.ok [] S7)).bind fun d8 S9 => Res.ok (Fl.next ρ) S9) (_law_picks_b0_2 n) := by kernel_rfl
theorem _law_picks_b0_2_eq (n : Nat) (ρ : EnvD) (S : Store) : _law_picks_b0_2 n ρ S = seqE ((getE ρ 3 S).bind fun d10 S11 => Res.ok (Fl.ret d10) S11) (_law_picks_b0_3 n) := by kernel_rfl
theorem _law_picks_sem (n : Nat) (p0 p1 p2 : D) (S : Store) : d__law_picks.sem (pg.tab (n + 2)) [p0, p1, p2] S = outR .cut S (_law_picks_b0_0 n [some p0, some p1, some p2, none] S) := by kernel_rfl
noncomputable def _law_stock_b0_0 (n : Nat) : EvS := exB (d__law_stock.gm (pg.tab (n + 2)) false) 30 (List.drop 0 (defBody d__law_stock.st))
noncomputable def _law_stock_b0_1 (n : Nat) : EvS := exB (d__law_stock.gm (pg.tab (n + 2)) false) 30 (List.drop 1 (defBody d__law_stock.st))
noncomputable def _law_stock_b0_2 (n : Nat) : EvS := exB (d__law_stock.gm (pg.tab (n + 2)) false) 30 (List.drop 2 (defBody d__law_stock.st))
noncomputable def _law_stock_b0_3 (n : Nat) : EvS := exB (d__law_stock.gm (pg.tab (n + 2)) false) 30 (List.drop 3 (defBody d__law_stock.st))
noncomputable def _law_stock_b0_4 (n : Nat) : EvS := exB (d__law_stock.gm (pg.tab (n + 2)) false) 30 (List.drop 4 (defBody d__law_stock.st))
noncomputable def _law_stock_b0_5 (n : Nat) : EvS := exB (d__law_stock.gm (pg.tab (n + 2)) false) 30 (List.drop 5 (defBody d__law_stock.st))
noncomputable def _law_stock_b0_6 (n : Nat) : EvS := fun ρ S => Res.ok (Fl.next ρ) S
theorem _law_stock_b0_0_eq (n : Nat) (ρ : EnvD) (S : Store) : _law_stock_b0_0 n ρ S = seqE ((((consR (Res.ok (D.str "s") S) fun S1 => consR (Res.ok (D.str "t") S1) fun S2 => consR (Res.ok (D.str "u") S2) fun S3 => consR (Res.ok (D.str "w") S3) fun S4 => Res.ok [] S4).bind tupR).bind fun d5 S6 => (Res.ok none S6).bind fun d7 S8 => ((getE ρ 1 S8).bind optR).bind fun d9 S10 => slD d5 d7 d9 S10).bind fun d11 S12 => Res.ok (Fl.next (List.set ρ 3 (some d11))) S12) (_law_stock_b0_1 n) := by kernel_rfl
theorem _law_stock_b0_1_eq (n : Nat) (ρ : EnvD) (S : Store) : _law_stock_b0_1 n ρ S = seqE ((((getE ρ 1 S).bind rng1).bind fun p13 S14 => compR (fun x => some (List.set (wipeD ρ [6]) 6 (some x))) (fun _ S => Res.ok true S) (fun r17 S18 => (consR ((Res.ok (D.str "e") S18).bind fun d20 S21 => ((consR (getE r17 6 S21) fun S22 => Res.ok [] S22).bind strD).bind fun d23 S24 => binD .Add d20 d23 S24) fun S19 => consR ((getE r17 3 S19).bind fun d26 S27 => (getE r17 6 S27).bind fun d28 S29 => ixD d26 d28 S29) fun S25 => consR ((Res.ok [] S25).bind tupR) fun S30 => Res.ok [] S30).bind tupR) p13 S14).bind fun d31 S32 => Res.ok (Fl.next (List.set ρ 4 (some d31))) S32) (_law_stock_b0_2 n) := by kernel_rfl
theorem _law_stock_b0_2_eq (n : Nat) (ρ : EnvD) (S : Store) : _law_stock_b0_2 n ρ S = seqE (((Res.ok [] S).bind lstR).bind fun d33 S34 => Res.ok (Fl.next (List.set ρ 5 (some d33))) S34) (_law_stock_b0_3 n) := by kernel_rfl
noncomputable def _law_stock_b1_0 (n : Nat) : EvS := exB (d__law_stock.gm (pg.tab (n + 2)) false) 29 (List.drop 0 (forB (at_ (defBody d__law_stock.st) 3)))
noncomputable def _law_stock_b1_1 (n : Nat) : EvS := exB (d__law_stock.gm (pg.tab (n + 2)) false) 29 (List.drop 1 (forB (at_ (defBody d__law_stock.st) 3)))
noncomputable def _law_stock_b1_2 (n : Nat) : EvS := fun ρ S => Res.ok (Fl.next ρ) S
theorem _law_stock_b1_0_eq (n : Nat) (ρ : EnvD) (S : Store) : _law_stock_b1_0 n ρ S = seqE (((consR ((((Res.ok (D.int 1) S).bind fun d42 S43 => (((consR (getE ρ 0 S43) fun S44 => Res.ok [] S44).bind (d__law_pick.sem (pg.tab (n + 1)))).bind fun d45 S46 => (Res.ok (D.int 2) S46).bind fun d47 S48 => binD .Mod d45 d47 S48).bind fun d49 S50 => binD .Add d42 d49 S50).bind rng1).bind fun p36 S37 => compR (fun x => some (List.set (wipeD ρ [8]) 8 (some x))) (fun _ S => Res.ok true S) (fun r40 S41 => (getE r40 3 S41).bind fun d51 S52 => (((consR (getE r40 0 S52) fun S53 => Res.ok [] S53).bind (d__law_pick.sem (pg.tab (n + 1)))).bind fun d54 S55 => (getE r40 1 S55).bind fun d56 S57 => binD .Mod d54 d56 S57).bind fun d58 S59 => ixD d51 d58 S59) p36 S37) fun S35 => Res.ok [] S35).bind tupleD).bind fun d60 S61 => Res.ok (Fl.next (List.set ρ 7 (some d60))) S61) (_law_stock_b1_1 n) := by kernel_rfl
theorem _law_stock_b1_1_eq (n : Nat) (ρ : EnvD) (S : Store) : _law_stock_b1_1 n ρ S = seqE (((getE ρ 5 S).bind (mK1 (pg.tab (n + 2)) "append" fun S62 => consR ((consR ((Res.ok (D.str "m") S62).bind fun d65 S66 => ((consR (getE ρ 6 S66) fun S67 => Res.ok [] S67).bind strD).bind fun d68 S69 => binD .Add d65 d68 S69) fun S64 => consR ((getE ρ 3 S64).bind fun d71 S72 => (((consR (getE ρ 0 S72) fun S73 => Res.ok [] S73).bind (d__law_pick.sem (pg.tab (n + 1)))).bind fun d74 S75 => (getE ρ 1 S75).bind fun d76 S77 => binD .Mod d74 d76 S77).bind fun d78 S79 => ixD d71 d78 S79) fun S70 => consR (getE ρ 7 S70) fun S80 => Res.ok [] S80).bind tupR) fun S63 => Res.ok [] S63)).bind fun d81 S82 => Res.ok (Fl.next ρ) S82) (_law_stock_b1_2 n) := by kernel_rfl
theorem _law_stock_b0_3_eq (n : Nat) (ρ : EnvD) (S : Store) : _law_stock_b0_3 n ρ S = seqE (((((consR (getE ρ 0 S) fun S85 => Res.ok [] S85).bind (d__law_pick.sem (pg.tab (n + 1)))).bind fun d86 S87 => ((getE ρ 2 S87).bind fun d88 S89 => (Res.ok (D.int 1) S89).bind fun d90 S91 => binD .Add d88 d90 S91).bind fun d92 S93 => binD .Mod d86 d92 S93).bind rng1).bind fun p83 S84 => forE (fun x r => some (List.set r 6 (some x))) (_law_stock_b1_0 n) p83.2 p83.1 p83.1 ρ S84) (_law_stock_b0_4 n) := by kernel_rfl
noncomputable def _law_stock_b2_0 (n : Nat) : EvS := exB (d__law_stock.gm (pg.tab (n + 2)) false) 29 (List.drop 0 (ifA (at_ (defBody d__law_stock.st) 4)))
noncomputable def _law_stock_b2_1 (n : Nat) : EvS := fun ρ S => Res.ok (Fl.next ρ) S
theorem _law_stock_b2_0_eq (n : Nat) (ρ : EnvD) (S : Store) : _law_stock_b2_0 n ρ S = seqE (((consR ((getE ρ 4 S).bind fun d95 S96 => (getE ρ 5 S96).bind fun d97 S98 => binD .Add d95 d97 S98) fun S94 => Res.ok [] S94).bind tupleD).bind fun d99 S100 => Res.ok (Fl.ret d99) S100) (_law_stock_b2_1 n) := by kernel_rfl
theorem _law_stock_b0_4_eq (n : Nat) (ρ : EnvD) (S : Store) : _law_stock_b0_4 n ρ S = seqE ((((((consR (getE ρ 0 S) fun S103 => Res.ok [] S103).bind (d__law_pick.sem (pg.tab (n + 1)))).bind fun d104 S105 => (Res.ok (D.int 2) S105).bind fun d106 S107 => binD .Mod d104 d106 S107).bind fun d108 S109 => (Res.ok (D.int 0) S109).bind fun d110 S111 => cmpD .Eq d108 d110 S111).bind asB).bind fun b101 S102 => if b101 then _law_stock_b2_0 n ρ S102 else Res.ok (Fl.next ρ) S102) (_law_stock_b0_5 n) := by kernel_rfl
theorem _law_stock_b0_5_eq (n : Nat) (ρ : EnvD) (S : Store) : _law_stock_b0_5 n ρ S = seqE (((consR ((getE ρ 5 S).bind fun d113 S114 => (getE ρ 4 S114).bind fun d115 S116 => binD .Add d113 d115 S116) fun S112 => Res.ok [] S112).bind tupleD).bind fun d117 S118 => Res.ok (Fl.ret d117) S118) (_law_stock_b0_6 n) := by kernel_rfl
theorem _law_stock_sem (n : Nat) (p0 p1 p2 : D) (S : Store) : d__law_stock.sem (pg.tab (n + 2)) [p0, p1, p2] S = outR .cut S (_law_stock_b0_0 n [some p0, some p1, some p2, none, none, none, none, none, none] S) := by kernel_rfl
noncomputable def _law_put_b0_0 (n : Nat) : EvS := exB (d__law_put.gm (pg.tab (n + 2)) false) 30 (List.drop 0 (defBody d__law_put.st))
noncomputable def _law_put_b0_1 (n : Nat) : EvS := fun ρ S => Res.ok (Fl.next ρ) S
theorem _law_put_b0_0_eq (n : Nat) (ρ : EnvD) (S : Store) : _law_put_b0_0 n ρ S = seqE (((((consR ((getE ρ 0 S).bind fun d2 S3 => (Res.ok none S3).bind fun d4 S5 => ((getE ρ 1 S5).bind optR).bind fun d6 S7 => slD d2 d4 d6 S7) fun S1 => Res.ok [] S1).bind listD).bind fun d8 S9 => ((consR (getE ρ 2 S9) fun S10 => Res.ok [] S10).bind lstR).bind fun d11 S12 => binD .Add d8 d11 S12).bind fun d13 S14 => ((consR ((getE ρ 0 S14).bind fun d16 S17 => (((getE ρ 1 S17).bind fun d18 S19 => (Res.ok (D.int 1) S19).bind fun d20 S21 => binD .Add d18 d20 S21).bind optR).bind fun d22 S23 => (Res.ok none S23).bind fun d24 S25 => slD d16 d22 d24 S25) fun S15 => Res.ok [] S15).bind listD).bind fun d26 S27 => binD .Add d13 d26 S27).bind fun d28 S29 => Res.ok (Fl.ret d28) S29) (_law_put_b0_1 n) := by kernel_rfl
theorem _law_put_sem (n : Nat) (p0 p1 p2 : D) (S : Store) : d__law_put.sem (pg.tab (n + 2)) [p0, p1, p2] S = outR .cut S (_law_put_b0_0 n [some p0, some p1, some p2] S) := by kernel_rfl
noncomputable def _law_spoilt_b0_0 (n : Nat) : EvS := exB (d__law_spoilt.gm (pg.tab (n + 2)) false) 30 (List.drop 0 (defBody d__law_spoilt.st))
noncomputable def _law_spoilt_b0_1 (n : Nat) : EvS := exB (d__law_spoilt.gm (pg.tab (n + 2)) false) 30 (List.drop 1 (defBody d__law_spoilt.st))
noncomputable def _law_spoilt_b0_2 (n : Nat) : EvS := exB (d__law_spoilt.gm (pg.tab (n + 2)) false) 30 (List.drop 2 (defBody d__law_spoilt.st))
noncomputable def _law_spoilt_b0_3 (n : Nat) : EvS := exB (d__law_spoilt.gm (pg.tab (n + 2)) false) 30 (List.drop 3 (defBody d__law_spoilt.st))
noncomputable def _law_spoilt_b0_4 (n : Nat) : EvS := exB (d__law_spoilt.gm (pg.tab (n + 2)) false) 30 (List.drop 4 (defBody d__law_spoilt.st))
noncomputable def _law_spoilt_b0_5 (n : Nat) : EvS := exB (d__law_spoilt.gm (pg.tab (n + 2)) false) 30 (List.drop 5 (defBody d__law_spoilt.st))
noncomputable def _law_spoilt_b0_6 (n : Nat) : EvS := exB (d__law_spoilt.gm (pg.tab (n + 2)) false) 30 (List.drop 6 (defBody d__law_spoilt.st))
noncomputable def _law_spoilt_b0_7 (n : Nat) : EvS := exB (d__law_spoilt.gm (pg.tab (n + 2)) false) 30 (List.drop 7 (defBody d__law_spoilt.st))
noncomputable def _law_spoilt_b0_8 (n : Nat) : EvS := exB (d__law_spoilt.gm (pg.tab (n + 2)) false) 30 (List.drop 8 (defBody d__law_spoilt.st))
noncomputable def _law_spoilt_b0_9 (n : Nat) : EvS := exB (d__law_spoilt.gm (pg.tab (n + 2)) false) 30 (List.drop 9 (defBody d__law_spoilt.st))
noncomputable def _law_spoilt_b0_10 (n : Nat) : EvS := exB (d__law_spoilt.gm (pg.tab (n + 2)) false) 30 (List.drop 10 (defBody d__law_spoilt.st))
noncomputable def _law_spoilt_b0_11 (n : Nat) : EvS := exB (d__law_spoilt.gm (pg.tab (n + 2)) false) 30 (List.drop 11 (defBody d__law_spoilt.st))
noncomputable def _law_spoilt_b0_12 (n : Nat) : EvS := exB (d__law_spoilt.gm (pg.tab (n + 2)) false) 30 (List.drop 12 (defBody d__law_spoilt.st))
noncomputable def _law_spoilt_b0_13 (n : Nat) : EvS := fun ρ S => Res.ok (Fl.next ρ) S
theorem _law_spoilt_b0_0_eq (n : Nat) (ρ : EnvD) (S : Store) : _law_spoilt_b0_0 n ρ S = seqE (((getE ρ 1 S).bind (mK1 (pg.tab (n + 2)) "split" fun S1 => consR (Res.ok (D.str "\n") S1) fun S2 => Res.ok [] S2)).bind fun d3 S4 => Res.ok (Fl.next (List.set ρ 3 (some d3))) S4) (_law_spoilt_b0_1 n) := by kernel_rfl
theorem _law_spoilt_b0_1_eq (n : Nat) (ρ : EnvD) (S : Store) : _law_spoilt_b0_1 n ρ S = seqE ((((consR (getE ρ 0 S) fun S5 => Res.ok [] S5).bind (d__law_pick.sem (pg.tab (n + 1)))).bind fun d6 S7 => ((consR (getE ρ 3 S7) fun S8 => Res.ok [] S8).bind lenD).bind fun d9 S10 => binD .Mod d6 d9 S10).bind fun d11 S12 => Res.ok (Fl.next (List.set ρ 4 (some d11))) S12) (_law_spoilt_b0_2 n) := by kernel_rfl
theorem _law_spoilt_b0_2_eq (n : Nat) (ρ : EnvD) (S : Store) : _law_spoilt_b0_2 n ρ S = seqE ((((consR (getE ρ 0 S) fun S13 => Res.ok [] S13).bind (d__law_pick.sem (pg.tab (n + 1)))).bind fun d14 S15 => (Res.ok (D.int 10) S15).bind fun d16 S17 => binD .Mod d14 d16 S17).bind fun d18 S19 => Res.ok (Fl.next (List.set ρ 5 (some d18))) S19) (_law_spoilt_b0_3 n) := by kernel_rfl
theorem _law_spoilt_b0_3_eq (n : Nat) (ρ : EnvD) (S : Store) : _law_spoilt_b0_3 n ρ S = seqE ((((getE ρ 3 S).bind fun d21 S22 => (getE ρ 4 S22).bind fun d23 S24 => ixD d21 d23 S24).bind (mK1 (pg.tab (n + 2)) "split" fun S20 => consR (Res.ok (D.str " ") S20) fun S25 => Res.ok [] S25)).bind fun d26 S27 => Res.ok (Fl.next (List.set ρ 6 (some d26))) S27) (_law_spoilt_b0_4 n) := by kernel_rfl
theorem _law_spoilt_b0_4_eq (n : Nat) (ρ : EnvD) (S : Store) : _law_spoilt_b0_4 n ρ S = seqE ((((consR (getE ρ 0 S) fun S28 => Res.ok [] S28).bind (d__law_pick.sem (pg.tab (n + 1)))).bind fun d29 S30 => ((consR (getE ρ 6 S30) fun S31 => Res.ok [] S31).bind lenD).bind fun d32 S33 => binD .Mod d29 d32 S33).bind fun d34 S35 => Res.ok (Fl.next (List.set ρ 7 (some d34))) S35) (_law_spoilt_b0_5 n) := by kernel_rfl
theorem _law_spoilt_b0_5_eq (n : Nat) (ρ : EnvD) (S : Store) : _law_spoilt_b0_5 n ρ S = seqE (((getE ρ 2 S).bind fun d36 S37 => (((consR (getE ρ 0 S37) fun S38 => Res.ok [] S38).bind (d__law_pick.sem (pg.tab (n + 1)))).bind fun d39 S40 => ((consR (getE ρ 2 S40) fun S41 => Res.ok [] S41).bind lenD).bind fun d42 S43 => binD .Mod d39 d42 S43).bind fun d44 S45 => ixD d36 d44 S45).bind fun d46 S47 => Res.ok (Fl.next (List.set ρ 8 (some d46))) S47) (_law_spoilt_b0_6 n) := by kernel_rfl
theorem _law_spoilt_b0_6_eq (n : Nat) (ρ : EnvD) (S : Store) : _law_spoilt_b0_6 n ρ S = seqE ((((consR (getE ρ 0 S) fun S48 => Res.ok [] S48).bind (d__law_pick.sem (pg.tab (n + 1)))).bind fun d49 S50 => ((consR (getE ρ 3 S50) fun S51 => Res.ok [] S51).bind lenD).bind fun d52 S53 => binD .Mod d49 d52 S53).bind fun d54 S55 => Res.ok (Fl.next (List.set ρ 9 (some d54))) S55) (_law_spoilt_b0_7 n) := by kernel_rfl
noncomputable def _law_spoilt_b1_0 (n : Nat) : EvS := exB (d__law_spoilt.gm (pg.tab (n + 2)) false) 29 (List.drop 0 (ifA (at_ (defBody d__law_spoilt.st) 7)))
noncomputable def _law_spoilt_b1_1 (n : Nat) : EvS := fun ρ S => Res.ok (Fl.next ρ) S
theorem _law_spoilt_b1_0_eq (n : Nat) (ρ : EnvD) (S : Store) : _law_spoilt_b1_0 n ρ S = seqE (((Res.ok (D.str "\n") S).bind (mK1 (pg.tab (n + 2)) "join" fun S56 => consR (((getE ρ 3 S56).bind fun d58 S59 => (Res.ok none S59).bind fun d60 S61 => ((getE ρ 4 S61).bind optR).bind fun d62 S63 => slD d58 d60 d62 S63).bind fun d64 S65 => ((getE ρ 3 S65).bind fun d66 S67 => (((getE ρ 4 S67).bind fun d68 S69 => (Res.ok (D.int 1) S69).bind fun d70 S71 => binD .Add d68 d70 S71).bind optR).bind fun d72 S73 => (Res.ok none S73).bind fun d74 S75 => slD d66 d72 d74 S75).bind fun d76 S77 => binD .Add d64 d76 S77) fun S57 => Res.ok [] S57)).bind fun d78 S79 => Res.ok (Fl.ret d78) S79) (_law_spoilt_b1_1 n) := by kernel_rfl
theorem _law_spoilt_b0_7_eq (n : Nat) (ρ : EnvD) (S : Store) : _law_spoilt_b0_7 n ρ S = seqE ((((getE ρ 5 S).bind fun d82 S83 => (Res.ok (D.int 0) S83).bind fun d84 S85 => cmpD .Eq d82 d84 S85).bind asB).bind fun b80 S81 => if b80 then _law_spoilt_b1_0 n ρ S81 else Res.ok (Fl.next ρ) S81) (_law_spoilt_b0_8 n) := by kernel_rfl
noncomputable def _law_spoilt_b2_0 (n : Nat) : EvS := exB (d__law_spoilt.gm (pg.tab (n + 2)) false) 29 (List.drop 0 (ifA (at_ (defBody d__law_spoilt.st) 8)))
noncomputable def _law_spoilt_b2_1 (n : Nat) : EvS := fun ρ S => Res.ok (Fl.next ρ) S
theorem _law_spoilt_b2_0_eq (n : Nat) (ρ : EnvD) (S : Store) : _law_spoilt_b2_0 n ρ S = seqE (((Res.ok (D.str "\n") S).bind (mK1 (pg.tab (n + 2)) "join" fun S86 => consR ((((getE ρ 3 S86).bind fun d88 S89 => (Res.ok none S89).bind fun d90 S91 => ((getE ρ 4 S91).bind optR).bind fun d92 S93 => slD d88 d90 d92 S93).bind fun d94 S95 => ((consR ((getE ρ 3 S95).bind fun d97 S98 => (getE ρ 9 S98).bind fun d99 S100 => ixD d97 d99 S100) fun S96 => Res.ok [] S96).bind lstR).bind fun d101 S102 => binD .Add d94 d101 S102).bind fun d103 S104 => ((getE ρ 3 S104).bind fun d105 S106 => ((getE ρ 4 S106).bind optR).bind fun d107 S108 => (Res.ok none S108).bind fun d109 S110 => slD d105 d107 d109 S110).bind fun d111 S112 => binD .Add d103 d111 S112) fun S87 => Res.ok [] S87)).bind fun d113 S114 => Res.ok (Fl.ret d113) S114) (_law_spoilt_b2_1 n) := by kernel_rfl
theorem _law_spoilt_b0_8_eq (n : Nat) (ρ : EnvD) (S : Store) : _law_spoilt_b0_8 n ρ S = seqE ((((getE ρ 5 S).bind fun d117 S118 => (Res.ok (D.int 1) S118).bind fun d119 S120 => cmpD .Eq d117 d119 S120).bind asB).bind fun b115 S116 => if b115 then _law_spoilt_b2_0 n ρ S116 else Res.ok (Fl.next ρ) S116) (_law_spoilt_b0_9 n) := by kernel_rfl
noncomputable def _law_spoilt_b3_0 (n : Nat) : EvS := exB (d__law_spoilt.gm (pg.tab (n + 2)) false) 29 (List.drop 0 (ifA (at_ (defBody d__law_spoilt.st) 9)))
noncomputable def _law_spoilt_b3_1 (n : Nat) : EvS := fun ρ S => Res.ok (Fl.next ρ) S
theorem _law_spoilt_b3_0_eq (n : Nat) (ρ : EnvD) (S : Store) : _law_spoilt_b3_0 n ρ S = seqE (((Res.ok (D.str "\n") S).bind (mK1 (pg.tab (n + 2)) "join" fun S121 => consR ((consR (getE ρ 3 S121) fun S123 => consR (getE ρ 4 S123) fun S124 => consR ((getE ρ 3 S124).bind fun d126 S127 => (getE ρ 9 S127).bind fun d128 S129 => ixD d126 d128 S129) fun S125 => Res.ok [] S125).bind (d__law_put.sem (pg.tab (n + 1)))) fun S122 => Res.ok [] S122)).bind fun d130 S131 => Res.ok (Fl.ret d130) S131) (_law_spoilt_b3_1 n) := by kernel_rfl
theorem _law_spoilt_b0_9_eq (n : Nat) (ρ : EnvD) (S : Store) : _law_spoilt_b0_9 n ρ S = seqE ((((getE ρ 5 S).bind fun d134 S135 => (Res.ok (D.int 2) S135).bind fun d136 S137 => cmpD .Eq d134 d136 S137).bind asB).bind fun b132 S133 => if b132 then _law_spoilt_b3_0 n ρ S133 else Res.ok (Fl.next ρ) S133) (_law_spoilt_b0_10 n) := by kernel_rfl
noncomputable def _law_spoilt_b4_0 (n : Nat) : EvS := exB (d__law_spoilt.gm (pg.tab (n + 2)) false) 29 (List.drop 0 (ifA (at_ (defBody d__law_spoilt.st) 10)))
noncomputable def _law_spoilt_b4_1 (n : Nat) : EvS := fun ρ S => Res.ok (Fl.next ρ) S
theorem _law_spoilt_b4_0_eq (n : Nat) (ρ : EnvD) (S : Store) : _law_spoilt_b4_0 n ρ S = seqE ((((getE ρ 1 S).bind fun d138 S139 => (Res.ok (D.str "\n") S139).bind fun d140 S141 => binD .Add d138 d140 S141).bind fun d142 S143 => ((((getE ρ 8 S143).bind fun d146 S147 => (Res.ok (D.str ";") S147).bind fun d148 S149 => cmpD .Eq d146 d148 S149).bind asB).bind fun b144 S145 => if b144 then Res.ok (D.str "") S145 else getE ρ 8 S145).bind fun d150 S151 => binD .Add d142 d150 S151).bind fun d152 S153 => Res.ok (Fl.ret d152) S153) (_law_spoilt_b4_1 n) := by kernel_rfl
theorem _law_spoilt_b0_10_eq (n : Nat) (ρ : EnvD) (S : Store) : _law_spoilt_b0_10 n ρ S = seqE ((((getE ρ 5 S).bind fun d156 S157 => (Res.ok (D.int 3) S157).bind fun d158 S159 => cmpD .Eq d156 d158 S159).bind asB).bind fun b154 S155 => if b154 then _law_spoilt_b4_0 n ρ S155 else Res.ok (Fl.next ρ) S155) (_law_spoilt_b0_11 n) := by kernel_rfl
noncomputable def _law_spoilt_b5_0 (n : Nat) : EvS := exB (d__law_spoilt.gm (pg.tab (n + 2)) false) 29 (List.drop 0 (ifA (at_ (defBody d__law_spoilt.st) 11)))
noncomputable def _law_spoilt_b5_1 (n : Nat) : EvS := fun ρ S => Res.ok (Fl.next ρ) S
theorem _law_spoilt_b5_0_eq (n : Nat) (ρ : EnvD) (S : Store) : _law_spoilt_b5_0 n ρ S = seqE ((((getE ρ 6 S).bind fun d160 S161 => (Res.ok none S161).bind fun d162 S163 => ((getE ρ 7 S163).bind optR).bind fun d164 S165 => slD d160 d162 d164 S165).bind fun d166 S167 => ((getE ρ 6 S167).bind fun d168 S169 => (((getE ρ 7 S169).bind fun d170 S171 => (Res.ok (D.int 1) S171).bind fun d172 S173 => binD .Add d170 d172 S173).bind optR).bind fun d174 S175 => (Res.ok none S175).bind fun d176 S177 => slD d168 d174 d176 S177).bind fun d178 S179 => binD .Add d166 d178 S179).bind fun d180 S181 => Res.ok (Fl.next (List.set ρ 6 (some d180))) S181) (_law_spoilt_b5_1 n) := by kernel_rfl
noncomputable def _law_spoilt_b6_0 (n : Nat) : EvS := exB (d__law_spoilt.gm (pg.tab (n + 2)) false) 29 (List.drop 0 (ifB (at_ (defBody d__law_spoilt.st) 11)))
noncomputable def _law_spoilt_b6_1 (n : Nat) : EvS := fun ρ S => Res.ok (Fl.next ρ) S
noncomputable def _law_spoilt_b7_0 (n : Nat) : EvS := exB (d__law_spoilt.gm (pg.tab (n + 2)) false) 28 (List.drop 0 (ifA (at_ (ifB (at_ (defBody d__law_spoilt.st) 11)) 0)))
noncomputable def _law_spoilt_b7_1 (n : Nat) : EvS := fun ρ S => Res.ok (Fl.next ρ) S
theorem _law_spoilt_b7_0_eq (n : Nat) (ρ : EnvD) (S : Store) : _law_spoilt_b7_0 n ρ S = seqE (((((getE ρ 6 S).bind fun d182 S183 => (Res.ok none S183).bind fun d184 S185 => ((getE ρ 7 S185).bind optR).bind fun d186 S187 => slD d182 d184 d186 S187).bind fun d188 S189 => ((consR ((getE ρ 6 S189).bind fun d191 S192 => (getE ρ 7 S192).bind fun d193 S194 => ixD d191 d193 S194) fun S190 => Res.ok [] S190).bind lstR).bind fun d195 S196 => binD .Add d188 d195 S196).bind fun d197 S198 => ((getE ρ 6 S198).bind fun d199 S200 => ((getE ρ 7 S200).bind optR).bind fun d201 S202 => (Res.ok none S202).bind fun d203 S204 => slD d199 d201 d203 S204).bind fun d205 S206 => binD .Add d197 d205 S206).bind fun d207 S208 => Res.ok (Fl.next (List.set ρ 6 (some d207))) S208) (_law_spoilt_b7_1 n) := by kernel_rfl
noncomputable def _law_spoilt_b8_0 (n : Nat) : EvS := exB (d__law_spoilt.gm (pg.tab (n + 2)) false) 28 (List.drop 0 (ifB (at_ (ifB (at_ (defBody d__law_spoilt.st) 11)) 0)))
noncomputable def _law_spoilt_b8_1 (n : Nat) : EvS := fun ρ S => Res.ok (Fl.next ρ) S
noncomputable def _law_spoilt_b9_0 (n : Nat) : EvS := exB (d__law_spoilt.gm (pg.tab (n + 2)) false) 27 (List.drop 0 (ifA (at_ (ifB (at_ (ifB (at_ (defBody d__law_spoilt.st) 11)) 0)) 0)))
noncomputable def _law_spoilt_b9_1 (n : Nat) : EvS := fun ρ S => Res.ok (Fl.next ρ) S
theorem _law_spoilt_b9_0_eq (n : Nat) (ρ : EnvD) (S : Store) : _law_spoilt_b9_0 n ρ S = seqE (((((getE ρ 6 S).bind fun d209 S210 => (Res.ok none S210).bind fun d211 S212 => ((getE ρ 7 S212).bind optR).bind fun d213 S214 => slD d209 d211 d213 S214).bind fun d215 S216 => ((consR (getE ρ 8 S216) fun S217 => Res.ok [] S217).bind lstR).bind fun d218 S219 => binD .Add d215 d218 S219).bind fun d220 S221 => ((getE ρ 6 S221).bind fun d222 S223 => ((getE ρ 7 S223).bind optR).bind fun d224 S225 => (Res.ok none S225).bind fun d226 S227 => slD d222 d224 d226 S227).bind fun d228 S229 => binD .Add d220 d228 S229).bind fun d230 S231 => Res.ok (Fl.next (List.set ρ 6 (some d230))) S231) (_law_spoilt_b9_1 n) := by kernel_rfl
noncomputable def _law_spoilt_b10_0 (n : Nat) : EvS := exB (d__law_spoilt.gm (pg.tab (n + 2)) false) 27 (List.drop 0 (ifB (at_ (ifB (at_ (ifB (at_ (defBody d__law_spoilt.st) 11)) 0)) 0)))
noncomputable def _law_spoilt_b10_1 (n : Nat) : EvS := fun ρ S => Res.ok (Fl.next ρ) S
noncomputable def _law_spoilt_b11_0 (n : Nat) : EvS := exB (d__law_spoilt.gm (pg.tab (n + 2)) false) 26 (List.drop 0 (ifA (at_ (ifB (at_ (ifB (at_ (ifB (at_ (defBody d__law_spoilt.st) 11)) 0)) 0)) 0)))
noncomputable def _law_spoilt_b11_1 (n : Nat) : EvS := fun ρ S => Res.ok (Fl.next ρ) S
theorem _law_spoilt_b11_0_eq (n : Nat) (ρ : EnvD) (S : Store) : _law_spoilt_b11_0 n ρ S = seqE (((getE ρ 6 S).bind fun d232 S233 => ((consR (getE ρ 8 S233) fun S234 => Res.ok [] S234).bind lstR).bind fun d235 S236 => binD .Add d232 d235 S236).bind fun d237 S238 => Res.ok (Fl.next (List.set ρ 6 (some d237))) S238) (_law_spoilt_b11_1 n) := by kernel_rfl
noncomputable def _law_spoilt_b12_0 (n : Nat) : EvS := exB (d__law_spoilt.gm (pg.tab (n + 2)) false) 26 (List.drop 0 (ifB (at_ (ifB (at_ (ifB (at_ (ifB (at_ (defBody d__law_spoilt.st) 11)) 0)) 0)) 0)))
noncomputable def _law_spoilt_b12_1 (n : Nat) : EvS := fun ρ S => Res.ok (Fl.next ρ) S
theorem _law_spoilt_b12_0_eq (n : Nat) (ρ : EnvD) (S : Store) : _law_spoilt_b12_0 n ρ S = seqE (((consR (getE ρ 6 S) fun S239 => consR (getE ρ 7 S239) fun S240 => consR (getE ρ 8 S240) fun S241 => Res.ok [] S241).bind (d__law_put.sem (pg.tab (n + 1)))).bind fun d242 S243 => Res.ok (Fl.next (List.set ρ 6 (some d242))) S243) (_law_spoilt_b12_1 n) := by kernel_rfl
theorem _law_spoilt_b10_0_eq (n : Nat) (ρ : EnvD) (S : Store) : _law_spoilt_b10_0 n ρ S = seqE ((((getE ρ 5 S).bind fun d246 S247 => (Res.ok (D.int 7) S247).bind fun d248 S249 => cmpD .Eq d246 d248 S249).bind asB).bind fun b244 S245 => if b244 then _law_spoilt_b11_0 n ρ S245 else _law_spoilt_b12_0 n ρ S245) (_law_spoilt_b10_1 n) := by kernel_rfl
theorem _law_spoilt_b8_0_eq (n : Nat) (ρ : EnvD) (S : Store) : _law_spoilt_b8_0 n ρ S = seqE ((((getE ρ 5 S).bind fun d252 S253 => (Res.ok (D.int 6) S253).bind fun d254 S255 => cmpD .Eq d252 d254 S255).bind asB).bind fun b250 S251 => if b250 then _law_spoilt_b9_0 n ρ S251 else _law_spoilt_b10_0 n ρ S251) (_law_spoilt_b8_1 n) := by kernel_rfl
theorem _law_spoilt_b6_0_eq (n : Nat) (ρ : EnvD) (S : Store) : _law_spoilt_b6_0 n ρ S = seqE ((((getE ρ 5 S).bind fun d258 S259 => (Res.ok (D.int 5) S259).bind fun d260 S261 => cmpD .Eq d258 d260 S261).bind asB).bind fun b256 S257 => if b256 then _law_spoilt_b7_0 n ρ S257 else _law_spoilt_b8_0 n ρ S257) (_law_spoilt_b6_1 n) := by kernel_rfl
theorem _law_spoilt_b0_11_eq (n : Nat) (ρ : EnvD) (S : Store) : _law_spoilt_b0_11 n ρ S = seqE ((((getE ρ 5 S).bind fun d264 S265 => (Res.ok (D.int 4) S265).bind fun d266 S267 => cmpD .Eq d264 d266 S267).bind asB).bind fun b262 S263 => if b262 then _law_spoilt_b5_0 n ρ S263 else _law_spoilt_b6_0 n ρ S263) (_law_spoilt_b0_12 n) := by kernel_rfl
theorem _law_spoilt_b0_12_eq (n : Nat) (ρ : EnvD) (S : Store) : _law_spoilt_b0_12 n ρ S = seqE (((Res.ok (D.str "\n") S).bind (mK1 (pg.tab (n + 2)) "join" fun S268 => consR ((consR (getE ρ 3 S268) fun S270 => consR (getE ρ 4 S270) fun S271 => consR ((Res.ok (D.str " ") S271).bind (mK1 (pg.tab (n + 2)) "join" fun S273 => consR (getE ρ 6 S273) fun S274 => Res.ok [] S274)) fun S272 => Res.ok [] S272).bind (d__law_put.sem (pg.tab (n + 1)))) fun S269 => Res.ok [] S269)).bind fun d275 S276 => Res.ok (Fl.ret d275) S276) (_law_spoilt_b0_13 n) := by kernel_rfl
theorem _law_spoilt_sem (n : Nat) (p0 p1 p2 : D) (S : Store) : d__law_spoilt.sem (pg.tab (n + 2)) [p0, p1, p2] S = outR .cut S (_law_spoilt_b0_0 n [some p0, some p1, some p2, none, none, none, none, none, none, none] S) := by kernel_rfl
noncomputable def _law_saying_b0_0 (n : Nat) : EvS := exB (d__law_saying.gm (pg.tab (n + 2)) false) 30 (List.drop 0 (defBody d__law_saying.st))
noncomputable def _law_saying_b0_1 (n : Nat) : EvS := exB (d__law_saying.gm (pg.tab (n + 2)) false) 30 (List.drop 1 (defBody d__law_saying.st))
noncomputable def _law_saying_b0_2 (n : Nat) : EvS := exB (d__law_saying.gm (pg.tab (n + 2)) false) 30 (List.drop 2 (defBody d__law_saying.st))
noncomputable def _law_saying_b0_3 (n : Nat) : EvS := exB (d__law_saying.gm (pg.tab (n + 2)) false) 30 (List.drop 3 (defBody d__law_saying.st))
noncomputable def _law_saying_b0_4 (n : Nat) : EvS := exB (d__law_saying.gm (pg.tab (n + 2)) false) 30 (List.drop 4 (defBody d__law_saying.st))
noncomputable def _law_saying_b0_5 (n : Nat) : EvS := exB (d__law_saying.gm (pg.tab (n + 2)) false) 30 (List.drop 5 (defBody d__law_saying.st))
noncomputable def _law_saying_b0_6 (n : Nat) : EvS := exB (d__law_saying.gm (pg.tab (n + 2)) false) 30 (List.drop 6 (defBody d__law_saying.st))
noncomputable def _law_saying_b0_7 (n : Nat) : EvS := fun ρ S => Res.ok (Fl.next ρ) S
theorem _law_saying_b0_0_eq (n : Nat) (ρ : EnvD) (S : Store) : _law_saying_b0_0 n ρ S = seqE ((((consR (getE ρ 0 S) fun S1 => Res.ok [] S1).bind (d__law_pick.sem (pg.tab (n + 1)))).bind fun d2 S3 => (Res.ok (D.int 9) S3).bind fun d4 S5 => binD .Mod d2 d4 S5).bind fun d6 S7 => Res.ok (Fl.next (List.set ρ 3 (some d6))) S7) (_law_saying_b0_1 n) := by kernel_rfl
noncomputable def _law_saying_b1_0 (n : Nat) : EvS := exB (d__law_saying.gm (pg.tab (n + 2)) false) 29 (List.drop 0 (ifA (at_ (defBody d__law_saying.st) 1)))
noncomputable def _law_saying_b1_1 (n : Nat) : EvS := fun ρ S => Res.ok (Fl.next ρ) S
theorem _law_saying_b1_0_eq (n : Nat) (ρ : EnvD) (S : Store) : _law_saying_b1_0 n ρ S = seqE (((consR (Res.ok (D.str "is") S) fun S8 => consR (((getE ρ 1 S8).bind fun d10 S11 => (((consR (getE ρ 0 S11) fun S12 => Res.ok [] S12).bind (d__law_pick.sem (pg.tab (n + 1)))).bind fun d13 S14 => ((consR (getE ρ 1 S14) fun S15 => Res.ok [] S15).bind lenD).bind fun d16 S17 => binD .Mod d13 d16 S17).bind fun d18 S19 => ixD d10 d18 S19).bind fun d20 S21 => (Res.ok (D.int 0) S21).bind fun d22 S23 => ixD d20 d22 S23) fun S9 => Res.ok [] S9).bind tupR).bind fun d24 S25 => Res.ok (Fl.ret d24) S25) (_law_saying_b1_1 n) := by kernel_rfl
theorem _law_saying_b0_1_eq (n : Nat) (ρ : EnvD) (S : Store) : _law_saying_b0_1 n ρ S = seqE ((orB (((getE ρ 2 S).bind fun d29 S30 => (Res.ok (D.int 0) S30).bind fun d31 S32 => cmpD .LtE d29 d31 S32).bind asB) fun S28 => ((getE ρ 3 S28).bind fun d33 S34 => (Res.ok (D.int 2) S34).bind fun d35 S36 => cmpD .Lt d33 d35 S36).bind asB).bind fun b26 S27 => if b26 then _law_saying_b1_0 n ρ S27 else Res.ok (Fl.next ρ) S27) (_law_saying_b0_2 n) := by kernel_rfl
noncomputable def _law_saying_b2_0 (n : Nat) : EvS := exB (d__law_saying.gm (pg.tab (n + 2)) false) 29 (List.drop 0 (ifA (at_ (defBody d__law_saying.st) 2)))
noncomputable def _law_saying_b2_1 (n : Nat) : EvS := fun ρ S => Res.ok (Fl.next ρ) S
theorem _law_saying_b2_0_eq (n : Nat) (ρ : EnvD) (S : Store) : _law_saying_b2_0 n ρ S = seqE (((consR (Res.ok (D.str "not") S) fun S37 => consR ((consR (getE ρ 0 S37) fun S39 => consR (getE ρ 1 S39) fun S40 => consR ((getE ρ 2 S40).bind fun d42 S43 => (Res.ok (D.int 1) S43).bind fun d44 S45 => binD .Sub d42 d44 S45) fun S41 => Res.ok [] S41).bind (d__law_saying.sem (pg.tab (n + 1)))) fun S38 => Res.ok [] S38).bind tupR).bind fun d46 S47 => Res.ok (Fl.ret d46) S47) (_law_saying_b2_1 n) := by kernel_rfl
theorem _law_saying_b0_2_eq (n : Nat) (ρ : EnvD) (S : Store) : _law_saying_b0_2 n ρ S = seqE ((((getE ρ 3 S).bind fun d50 S51 => (Res.ok (D.int 2) S51).bind fun d52 S53 => cmpD .Eq d50 d52 S53).bind asB).bind fun b48 S49 => if b48 then _law_saying_b2_0 n ρ S49 else Res.ok (Fl.next ρ) S49) (_law_saying_b0_3 n) := by kernel_rfl
noncomputable def _law_saying_b3_0 (n : Nat) : EvS := exB (d__law_saying.gm (pg.tab (n + 2)) false) 29 (List.drop 0 (ifA (at_ (defBody d__law_saying.st) 3)))
noncomputable def _law_saying_b3_1 (n : Nat) : EvS := fun ρ S => Res.ok (Fl.next ρ) S
theorem _law_saying_b3_0_eq (n : Nat) (ρ : EnvD) (S : Store) : _law_saying_b3_0 n ρ S = seqE (((consR (Res.ok (D.str "at") S) fun S54 => consR ((Res.ok (D.int 1) S54).bind fun d56 S57 => (((consR (getE ρ 0 S57) fun S58 => Res.ok [] S58).bind (d__law_pick.sem (pg.tab (n + 1)))).bind fun d59 S60 => (Res.ok (D.int 2) S60).bind fun d61 S62 => binD .Mod d59 d61 S62).bind fun d63 S64 => binD .Add d56 d63 S64) fun S55 => consR ((consR (getE ρ 0 S55) fun S66 => consR (getE ρ 1 S66) fun S67 => consR ((getE ρ 2 S67).bind fun d69 S70 => (Res.ok (D.int 1) S70).bind fun d71 S72 => binD .Sub d69 d71 S72) fun S68 => Res.ok [] S68).bind (d__law_saying.sem (pg.tab (n + 1)))) fun S65 => Res.ok [] S65).bind tupR).bind fun d73 S74 => Res.ok (Fl.ret d73) S74) (_law_saying_b3_1 n) := by kernel_rfl
theorem _law_saying_b0_3_eq (n : Nat) (ρ : EnvD) (S : Store) : _law_saying_b0_3 n ρ S = seqE ((((getE ρ 3 S).bind fun d77 S78 => (Res.ok (D.int 5) S78).bind fun d79 S80 => cmpD .Lt d77 d79 S80).bind asB).bind fun b75 S76 => if b75 then _law_saying_b3_0 n ρ S76 else Res.ok (Fl.next ρ) S76) (_law_saying_b0_4 n) := by kernel_rfl
noncomputable def _law_saying_b4_0 (n : Nat) : EvS := exB (d__law_saying.gm (pg.tab (n + 2)) false) 29 (List.drop 0 (ifA (at_ (defBody d__law_saying.st) 4)))
noncomputable def _law_saying_b4_1 (n : Nat) : EvS := fun ρ S => Res.ok (Fl.next ρ) S
theorem _law_saying_b4_0_eq (n : Nat) (ρ : EnvD) (S : Store) : _law_saying_b4_0 n ρ S = seqE (((consR (((consR (Res.ok (D.str "some") S) fun S82 => consR (Res.ok (D.str "all") S82) fun S83 => Res.ok [] S83).bind tupR).bind fun d84 S85 => ((getE ρ 3 S85).bind fun d86 S87 => (Res.ok (D.int 5) S87).bind fun d88 S89 => binD .Sub d86 d88 S89).bind fun d90 S91 => ixD d84 d90 S91) fun S81 => consR ((consR (getE ρ 0 S81) fun S93 => consR (getE ρ 1 S93) fun S94 => consR ((getE ρ 2 S94).bind fun d96 S97 => (Res.ok (D.int 1) S97).bind fun d98 S99 => binD .Sub d96 d98 S99) fun S95 => Res.ok [] S95).bind (d__law_saying.sem (pg.tab (n + 1)))) fun S92 => Res.ok [] S92).bind tupR).bind fun d100 S101 => Res.ok (Fl.ret d100) S101) (_law_saying_b4_1 n) := by kernel_rfl
theorem _law_saying_b0_4_eq (n : Nat) (ρ : EnvD) (S : Store) : _law_saying_b0_4 n ρ S = seqE ((((getE ρ 3 S).bind fun d104 S105 => (Res.ok (D.int 7) S105).bind fun d106 S107 => cmpD .Lt d104 d106 S107).bind asB).bind fun b102 S103 => if b102 then _law_saying_b4_0 n ρ S103 else Res.ok (Fl.next ρ) S103) (_law_saying_b0_5 n) := by kernel_rfl
theorem _law_saying_b0_5_eq (n : Nat) (ρ : EnvD) (S : Store) : _law_saying_b0_5 n ρ S = seqE (((consR (getE ρ 0 S) fun S108 => consR (getE ρ 1 S108) fun S109 => consR ((getE ρ 2 S109).bind fun d111 S112 => (Res.ok (D.int 1) S112).bind fun d113 S114 => binD .Sub d111 d113 S114) fun S110 => Res.ok [] S110).bind (d__law_saying.sem (pg.tab (n + 1)))).bind fun d115 S116 => Res.ok (Fl.next (List.set ρ 4 (some d115))) S116) (_law_saying_b0_6 n) := by kernel_rfl
theorem _law_saying_b0_6_eq (n : Nat) (ρ : EnvD) (S : Store) : _law_saying_b0_6 n ρ S = seqE (((consR (((consR (Res.ok (D.str "and") S) fun S118 => consR (Res.ok (D.str "or") S118) fun S119 => Res.ok [] S119).bind tupR).bind fun d120 S121 => ((getE ρ 3 S121).bind fun d122 S123 => (Res.ok (D.int 7) S123).bind fun d124 S125 => binD .Sub d122 d124 S125).bind fun d126 S127 => ixD d120 d126 S127) fun S117 => consR (getE ρ 4 S117) fun S128 => consR ((consR (getE ρ 0 S128) fun S130 => consR (getE ρ 1 S130) fun S131 => consR ((getE ρ 2 S131).bind fun d133 S134 => (Res.ok (D.int 1) S134).bind fun d135 S136 => binD .Sub d133 d135 S136) fun S132 => Res.ok [] S132).bind (d__law_saying.sem (pg.tab (n + 1)))) fun S129 => Res.ok [] S129).bind tupR).bind fun d137 S138 => Res.ok (Fl.ret d137) S138) (_law_saying_b0_7 n) := by kernel_rfl
theorem _law_saying_sem (n : Nat) (p0 p1 p2 : D) (S : Store) : d__law_saying.sem (pg.tab (n + 2)) [p0, p1, p2] S = outR .cut S (_law_saying_b0_0 n [some p0, some p1, some p2, none, none] S) := by kernel_rfl
noncomputable def _law_saying_text_b0_0 (n : Nat) : EvS := exB (d__law_saying_text.gm (pg.tab (n + 2)) false) 30 (List.drop 0 (defBody d__law_saying_text.st))
noncomputable def _law_saying_text_b0_1 (n : Nat) : EvS := exB (d__law_saying_text.gm (pg.tab (n + 2)) false) 30 (List.drop 1 (defBody d__law_saying_text.st))
noncomputable def _law_saying_text_b0_2 (n : Nat) : EvS := exB (d__law_saying_text.gm (pg.tab (n + 2)) false) 30 (List.drop 2 (defBody d__law_saying_text.st))
noncomputable def _law_saying_text_b0_3 (n : Nat) : EvS := exB (d__law_saying_text.gm (pg.tab (n + 2)) false) 30 (List.drop 3 (defBody d__law_saying_text.st))
noncomputable def _law_saying_text_b0_4 (n : Nat) : EvS := exB (d__law_saying_text.gm (pg.tab (n + 2)) false) 30 (List.drop 4 (defBody d__law_saying_text.st))
noncomputable def _law_saying_text_b0_5 (n : Nat) : EvS := fun ρ S => Res.ok (Fl.next ρ) S
noncomputable def _law_saying_text_b1_0 (n : Nat) : EvS := exB (d__law_saying_text.gm (pg.tab (n + 2)) false) 29 (List.drop 0 (ifA (at_ (defBody d__law_saying_text.st) 0)))
noncomputable def _law_saying_text_b1_1 (n : Nat) : EvS := fun ρ S => Res.ok (Fl.next ρ) S
theorem _law_saying_text_b1_0_eq (n : Nat) (ρ : EnvD) (S : Store) : _law_saying_text_b1_0 n ρ S = seqE (((Res.ok (D.str "is ") S).bind fun d1 S2 => ((getE ρ 0 S2).bind fun d3 S4 => (Res.ok (D.int 1) S4).bind fun d5 S6 => ixD d3 d5 S6).bind fun d7 S8 => binD .Add d1 d7 S8).bind fun d9 S10 => Res.ok (Fl.ret d9) S10) (_law_saying_text_b1_1 n) := by kernel_rfl
theorem _law_saying_text_b0_0_eq (n : Nat) (ρ : EnvD) (S : Store) : _law_saying_text_b0_0 n ρ S = seqE (((((getE ρ 0 S).bind fun d13 S14 => (Res.ok (D.int 0) S14).bind fun d15 S16 => ixD d13 d15 S16).bind fun d17 S18 => (Res.ok (D.str "is") S18).bind fun d19 S20 => cmpD .Eq d17 d19 S20).bind asB).bind fun b11 S12 => if b11 then _law_saying_text_b1_0 n ρ S12 else Res.ok (Fl.next ρ) S12) (_law_saying_text_b0_1 n) := by kernel_rfl
noncomputable def _law_saying_text_b2_0 (n : Nat) : EvS := exB (d__law_saying_text.gm (pg.tab (n + 2)) false) 29 (List.drop 0 (ifA (at_ (defBody d__law_saying_text.st) 1)))
noncomputable def _law_saying_text_b2_1 (n : Nat) : EvS := exB (d__law_saying_text.gm (pg.tab (n + 2)) false) 29 (List.drop 1 (ifA (at_ (defBody d__law_saying_text.st) 1)))
noncomputable def _law_saying_text_b2_2 (n : Nat) : EvS := fun ρ S => Res.ok (Fl.next ρ) S
theorem _law_saying_text_b2_0_eq (n : Nat) (ρ : EnvD) (S : Store) : _law_saying_text_b2_0 n ρ S = seqE (((((consR ((getE ρ 0 S).bind fun d22 S23 => (Res.ok (D.int 1) S23).bind fun d24 S25 => ixD d22 d24 S25) fun S21 => consR (Res.ok (D.int 0) S21) fun S26 => Res.ok [] S26).bind (d__law_saying_text.sem (pg.tab (n + 1)))).bind fun d27 S28 => (Res.ok (D.str " or ") S28).bind fun d29 S30 => binD .Add d27 d29 S30).bind fun d31 S32 => ((consR ((getE ρ 0 S32).bind fun d34 S35 => (Res.ok (D.int 2) S35).bind fun d36 S37 => ixD d34 d36 S37) fun S33 => consR (Res.ok (D.int 1) S33) fun S38 => Res.ok [] S38).bind (d__law_saying_text.sem (pg.tab (n + 1)))).bind fun d39 S40 => binD .Add d31 d39 S40).bind fun d41 S42 => Res.ok (Fl.next (List.set ρ 2 (some d41))) S42) (_law_saying_text_b2_1 n) := by kernel_rfl
theorem _law_saying_text_b2_1_eq (n : Nat) (ρ : EnvD) (S : Store) : _law_saying_text_b2_1 n ρ S = seqE (((((getE ρ 1 S).bind fun d45 S46 => (Res.ok (D.int 0) S46).bind fun d47 S48 => cmpD .Gt d45 d47 S48).bind asB).bind fun b43 S44 => if b43 then ((Res.ok (D.str "(") S44).bind fun d49 S50 => (getE ρ 2 S50).bind fun d51 S52 => binD .Add d49 d51 S52).bind fun d53 S54 => (Res.ok (D.str ")") S54).bind fun d55 S56 => binD .Add d53 d55 S56 else getE ρ 2 S44).bind fun d57 S58 => Res.ok (Fl.ret d57) S58) (_law_saying_text_b2_2 n) := by kernel_rfl
theorem _law_saying_text_b0_1_eq (n : Nat) (ρ : EnvD) (S : Store) : _law_saying_text_b0_1 n ρ S = seqE (((((getE ρ 0 S).bind fun d61 S62 => (Res.ok (D.int 0) S62).bind fun d63 S64 => ixD d61 d63 S64).bind fun d65 S66 => (Res.ok (D.str "or") S66).bind fun d67 S68 => cmpD .Eq d65 d67 S68).bind asB).bind fun b59 S60 => if b59 then _law_saying_text_b2_0 n ρ S60 else Res.ok (Fl.next ρ) S60) (_law_saying_text_b0_2 n) := by kernel_rfl
noncomputable def _law_saying_text_b3_0 (n : Nat) : EvS := exB (d__law_saying_text.gm (pg.tab (n + 2)) false) 29 (List.drop 0 (ifA (at_ (defBody d__law_saying_text.st) 2)))
noncomputable def _law_saying_text_b3_1 (n : Nat) : EvS := exB (d__law_saying_text.gm (pg.tab (n + 2)) false) 29 (List.drop 1 (ifA (at_ (defBody d__law_saying_text.st) 2)))
noncomputable def _law_saying_text_b3_2 (n : Nat) : EvS := fun ρ S => Res.ok (Fl.next ρ) S
theorem _law_saying_text_b3_0_eq (n : Nat) (ρ : EnvD) (S : Store) : _law_saying_text_b3_0 n ρ S = seqE (((((consR ((getE ρ 0 S).bind fun d70 S71 => (Res.ok (D.int 1) S71).bind fun d72 S73 => ixD d70 d72 S73) fun S69 => consR (Res.ok (D.int 1) S69) fun S74 => Res.ok [] S74).bind (d__law_saying_text.sem (pg.tab (n + 1)))).bind fun d75 S76 => (Res.ok (D.str " and ") S76).bind fun d77 S78 => binD .Add d75 d77 S78).bind fun d79 S80 => ((consR ((getE ρ 0 S80).bind fun d82 S83 => (Res.ok (D.int 2) S83).bind fun d84 S85 => ixD d82 d84 S85) fun S81 => consR (Res.ok (D.int 2) S81) fun S86 => Res.ok [] S86).bind (d__law_saying_text.sem (pg.tab (n + 1)))).bind fun d87 S88 => binD .Add d79 d87 S88).bind fun d89 S90 => Res.ok (Fl.next (List.set ρ 2 (some d89))) S90) (_law_saying_text_b3_1 n) := by kernel_rfl
theorem _law_saying_text_b3_1_eq (n : Nat) (ρ : EnvD) (S : Store) : _law_saying_text_b3_1 n ρ S = seqE (((((getE ρ 1 S).bind fun d93 S94 => (Res.ok (D.int 1) S94).bind fun d95 S96 => cmpD .Gt d93 d95 S96).bind asB).bind fun b91 S92 => if b91 then ((Res.ok (D.str "(") S92).bind fun d97 S98 => (getE ρ 2 S98).bind fun d99 S100 => binD .Add d97 d99 S100).bind fun d101 S102 => (Res.ok (D.str ")") S102).bind fun d103 S104 => binD .Add d101 d103 S104 else getE ρ 2 S92).bind fun d105 S106 => Res.ok (Fl.ret d105) S106) (_law_saying_text_b3_2 n) := by kernel_rfl
theorem _law_saying_text_b0_2_eq (n : Nat) (ρ : EnvD) (S : Store) : _law_saying_text_b0_2 n ρ S = seqE (((((getE ρ 0 S).bind fun d109 S110 => (Res.ok (D.int 0) S110).bind fun d111 S112 => ixD d109 d111 S112).bind fun d113 S114 => (Res.ok (D.str "and") S114).bind fun d115 S116 => cmpD .Eq d113 d115 S116).bind asB).bind fun b107 S108 => if b107 then _law_saying_text_b3_0 n ρ S108 else Res.ok (Fl.next ρ) S108) (_law_saying_text_b0_3 n) := by kernel_rfl
noncomputable def _law_saying_text_b4_0 (n : Nat) : EvS := exB (d__law_saying_text.gm (pg.tab (n + 2)) false) 29 (List.drop 0 (ifA (at_ (defBody d__law_saying_text.st) 3)))
noncomputable def _law_saying_text_b4_1 (n : Nat) : EvS := fun ρ S => Res.ok (Fl.next ρ) S
theorem _law_saying_text_b4_0_eq (n : Nat) (ρ : EnvD) (S : Store) : _law_saying_text_b4_0 n ρ S = seqE (((((Res.ok (D.str "at ") S).bind fun d117 S118 => ((consR ((getE ρ 0 S118).bind fun d120 S121 => (Res.ok (D.int 1) S121).bind fun d122 S123 => ixD d120 d122 S123) fun S119 => Res.ok [] S119).bind strD).bind fun d124 S125 => binD .Add d117 d124 S125).bind fun d126 S127 => (Res.ok (D.str " ") S127).bind fun d128 S129 => binD .Add d126 d128 S129).bind fun d130 S131 => ((consR ((getE ρ 0 S131).bind fun d133 S134 => (Res.ok (D.int 2) S134).bind fun d135 S136 => ixD d133 d135 S136) fun S132 => consR (Res.ok (D.int 2) S132) fun S137 => Res.ok [] S137).bind (d__law_saying_text.sem (pg.tab (n + 1)))).bind fun d138 S139 => binD .Add d130 d138 S139).bind fun d140 S141 => Res.ok (Fl.ret d140) S141) (_law_saying_text_b4_1 n) := by kernel_rfl
theorem _law_saying_text_b0_3_eq (n : Nat) (ρ : EnvD) (S : Store) : _law_saying_text_b0_3 n ρ S = seqE (((((getE ρ 0 S).bind fun d144 S145 => (Res.ok (D.int 0) S145).bind fun d146 S147 => ixD d144 d146 S147).bind fun d148 S149 => (Res.ok (D.str "at") S149).bind fun d150 S151 => cmpD .Eq d148 d150 S151).bind asB).bind fun b142 S143 => if b142 then _law_saying_text_b4_0 n ρ S143 else Res.ok (Fl.next ρ) S143) (_law_saying_text_b0_4 n) := by kernel_rfl
theorem _law_saying_text_b0_4_eq (n : Nat) (ρ : EnvD) (S : Store) : _law_saying_text_b0_4 n ρ S = seqE (((((getE ρ 0 S).bind fun d152 S153 => (Res.ok (D.int 0) S153).bind fun d154 S155 => ixD d152 d154 S155).bind fun d156 S157 => (Res.ok (D.str " ") S157).bind fun d158 S159 => binD .Add d156 d158 S159).bind fun d160 S161 => ((consR ((getE ρ 0 S161).bind fun d163 S164 => (Res.ok (D.int 1) S164).bind fun d165 S166 => ixD d163 d165 S166) fun S162 => consR (Res.ok (D.int 2) S162) fun S167 => Res.ok [] S167).bind (d__law_saying_text.sem (pg.tab (n + 1)))).bind fun d168 S169 => binD .Add d160 d168 S169).bind fun d170 S171 => Res.ok (Fl.ret d170) S171) (_law_saying_text_b0_5 n) := by kernel_rfl
theorem _law_saying_text_sem (n : Nat) (p0 p1 : D) (S : Store) : d__law_saying_text.sem (pg.tab (n + 2)) [p0, p1] S = outR .cut S (_law_saying_text_b0_0 n [some p0, some p1, none] S) := by kernel_rfl
noncomputable def _law_signs_b0_0 (n : Nat) : EvS := exB (d__law_signs.gm (pg.tab (n + 2)) false) 30 (List.drop 0 (defBody d__law_signs.st))
noncomputable def _law_signs_b0_1 (n : Nat) : EvS := exB (d__law_signs.gm (pg.tab (n + 2)) false) 30 (List.drop 1 (defBody d__law_signs.st))
noncomputable def _law_signs_b0_2 (n : Nat) : EvS := exB (d__law_signs.gm (pg.tab (n + 2)) false) 30 (List.drop 2 (defBody d__law_signs.st))
noncomputable def _law_signs_b0_3 (n : Nat) : EvS := exB (d__law_signs.gm (pg.tab (n + 2)) false) 30 (List.drop 3 (defBody d__law_signs.st))
noncomputable def _law_signs_b0_4 (n : Nat) : EvS := fun ρ S => Res.ok (Fl.next ρ) S
theorem _law_signs_b0_0_eq (n : Nat) (ρ : EnvD) (S : Store) : _law_signs_b0_0 n ρ S = seqE (((Res.ok [] S).bind lstR).bind fun d1 S2 => Res.ok (Fl.next (List.set ρ 1 (some d1))) S2) (_law_signs_b0_1 n) := by kernel_rfl
theorem _law_signs_b0_1_eq (n : Nat) (ρ : EnvD) (S : Store) : _law_signs_b0_1 n ρ S = seqE ((Res.ok (D.bl false) S).bind fun d3 S4 => Res.ok (Fl.next (List.set ρ 2 (some d3))) S4) (_law_signs_b0_2 n) := by kernel_rfl
noncomputable def _law_signs_b1_0 (n : Nat) : EvS := exB (d__law_signs.gm (pg.tab (n + 2)) false) 29 (List.drop 0 (forB (at_ (defBody d__law_signs.st) 2)))
noncomputable def _law_signs_b1_1 (n : Nat) : EvS := exB (d__law_signs.gm (pg.tab (n + 2)) false) 29 (List.drop 1 (forB (at_ (defBody d__law_signs.st) 2)))
noncomputable def _law_signs_b1_2 (n : Nat) : EvS := exB (d__law_signs.gm (pg.tab (n + 2)) false) 29 (List.drop 2 (forB (at_ (defBody d__law_signs.st) 2)))
noncomputable def _law_signs_b1_3 (n : Nat) : EvS := fun ρ S => Res.ok (Fl.next ρ) S
theorem _law_signs_b1_0_eq (n : Nat) (ρ : EnvD) (S : Store) : _law_signs_b1_0 n ρ S = seqE (((getE ρ 3 S).bind fun d5 S6 => (Res.ok (D.str "abcdefghijklmnopqrstuvwxyz0123456789") S6).bind fun d7 S8 => cmpD .In d5 d7 S8).bind fun d9 S10 => Res.ok (Fl.next (List.set ρ 4 (some d9))) S10) (_law_signs_b1_1 n) := by kernel_rfl
noncomputable def _law_signs_b2_0 (n : Nat) : EvS := exB (d__law_signs.gm (pg.tab (n + 2)) false) 28 (List.drop 0 (ifA (at_ (forB (at_ (defBody d__law_signs.st) 2)) 1)))
noncomputable def _law_signs_b2_1 (n : Nat) : EvS := fun ρ S => Res.ok (Fl.next ρ) S
theorem _law_signs_b2_0_eq (n : Nat) (ρ : EnvD) (S : Store) : _law_signs_b2_0 n ρ S = seqE ((((getE ρ 1 S).bind fun d11 S12 => ((Res.ok (D.int 1) S12).bind fun d13 S14 => negD d13 S14).bind fun d15 S16 => ixD d11 d15 S16).bind fun d17 S18 => (getE ρ 3 S18).bind fun d19 S20 => binD .Add d17 d19 S20).bind fun d21 S22 => (getE ρ 1 S22).bind fun d23 S24 => ((Res.ok (D.int 1) S24).bind fun d25 S26 => negD d25 S26).bind fun d27 S28 => setR d23 d27 d21 ρ S28) (_law_signs_b2_1 n) := by kernel_rfl
noncomputable def _law_signs_b3_0 (n : Nat) : EvS := exB (d__law_signs.gm (pg.tab (n + 2)) false) 28 (List.drop 0 (ifB (at_ (forB (at_ (defBody d__law_signs.st) 2)) 1)))
noncomputable def _law_signs_b3_1 (n : Nat) : EvS := fun ρ S => Res.ok (Fl.next ρ) S
noncomputable def _law_signs_b4_0 (n : Nat) : EvS := exB (d__law_signs.gm (pg.tab (n + 2)) false) 27 (List.drop 0 (ifA (at_ (ifB (at_ (forB (at_ (defBody d__law_signs.st) 2)) 1)) 0)))
noncomputable def _law_signs_b4_1 (n : Nat) : EvS := fun ρ S => Res.ok (Fl.next ρ) S
theorem _law_signs_b4_0_eq (n : Nat) (ρ : EnvD) (S : Store) : _law_signs_b4_0 n ρ S = seqE (((getE ρ 1 S).bind (mK1 (pg.tab (n + 2)) "append" fun S29 => consR (getE ρ 3 S29) fun S30 => Res.ok [] S30)).bind fun d31 S32 => Res.ok (Fl.next ρ) S32) (_law_signs_b4_1 n) := by kernel_rfl
theorem _law_signs_b3_0_eq (n : Nat) (ρ : EnvD) (S : Store) : _law_signs_b3_0 n ρ S = seqE ((((getE ρ 3 S).bind fun d35 S36 => (Res.ok (D.str " ") S36).bind fun d37 S38 => cmpD .NotEq d35 d37 S38).bind asB).bind fun b33 S34 => if b33 then _law_signs_b4_0 n ρ S34 else Res.ok (Fl.next ρ) S34) (_law_signs_b3_1 n) := by kernel_rfl
theorem _law_signs_b1_1_eq (n : Nat) (ρ : EnvD) (S : Store) : _law_signs_b1_1 n ρ S = seqE ((andB (truR (getE ρ 4 S)) fun S41 => truR (getE ρ 2 S41)).bind fun b39 S40 => if b39 then _law_signs_b2_0 n ρ S40 else _law_signs_b3_0 n ρ S40) (_law_signs_b1_2 n) := by kernel_rfl
theorem _law_signs_b1_2_eq (n : Nat) (ρ : EnvD) (S : Store) : _law_signs_b1_2 n ρ S = seqE ((getE ρ 4 S).bind fun d42 S43 => Res.ok (Fl.next (List.set ρ 2 (some d42))) S43) (_law_signs_b1_3 n) := by kernel_rfl
theorem _law_signs_b0_2_eq (n : Nat) (ρ : EnvD) (S : Store) : _law_signs_b0_2 n ρ S = seqE (((getE ρ 0 S).bind iterD).bind fun p44 S45 => forE (fun x r => some (List.set r 3 (some x))) (_law_signs_b1_0 n) p44.2 p44.1 p44.1 ρ S45) (_law_signs_b0_3 n) := by kernel_rfl
theorem _law_signs_b0_3_eq (n : Nat) (ρ : EnvD) (S : Store) : _law_signs_b0_3 n ρ S = seqE ((getE ρ 1 S).bind fun d46 S47 => Res.ok (Fl.ret d46) S47) (_law_signs_b0_4 n) := by kernel_rfl
theorem _law_signs_sem (n : Nat) (p0 : D) (S : Store) : d__law_signs.sem (pg.tab (n + 2)) [p0] S = outR .cut S (_law_signs_b0_0 n [some p0, none, none, none, none] S) := by kernel_rfl
noncomputable def _law_read_one_b0_0 (n : Nat) : EvS := exB (d__law_read_one.gm (pg.tab (n + 2)) false) 30 (List.drop 0 (defBody d__law_read_one.st))
noncomputable def _law_read_one_b0_1 (n : Nat) : EvS := exB (d__law_read_one.gm (pg.tab (n + 2)) false) 30 (List.drop 1 (defBody d__law_read_one.st))
noncomputable def _law_read_one_b0_2 (n : Nat) : EvS := exB (d__law_read_one.gm (pg.tab (n + 2)) false) 30 (List.drop 2 (defBody d__law_read_one.st))
noncomputable def _law_read_one_b0_3 (n : Nat) : EvS := exB (d__law_read_one.gm (pg.tab (n + 2)) false) 30 (List.drop 3 (defBody d__law_read_one.st))
noncomputable def _law_read_one_b0_4 (n : Nat) : EvS := exB (d__law_read_one.gm (pg.tab (n + 2)) false) 30 (List.drop 4 (defBody d__law_read_one.st))
noncomputable def _law_read_one_b0_5 (n : Nat) : EvS := exB (d__law_read_one.gm (pg.tab (n + 2)) false) 30 (List.drop 5 (defBody d__law_read_one.st))
noncomputable def _law_read_one_b0_6 (n : Nat) : EvS := exB (d__law_read_one.gm (pg.tab (n + 2)) false) 30 (List.drop 6 (defBody d__law_read_one.st))
noncomputable def _law_read_one_b0_7 (n : Nat) : EvS := exB (d__law_read_one.gm (pg.tab (n + 2)) false) 30 (List.drop 7 (defBody d__law_read_one.st))
noncomputable def _law_read_one_b0_8 (n : Nat) : EvS := fun ρ S => Res.ok (Fl.next ρ) S
theorem _law_read_one_b0_0_eq (n : Nat) (ρ : EnvD) (S : Store) : _law_read_one_b0_0 n ρ S = seqE (((((getE ρ 2 S).bind fun d3 S4 => ((consR (getE ρ 1 S4) fun S5 => Res.ok [] S5).bind lenD).bind fun d6 S7 => cmpD .Lt d3 d6 S7).bind asB).bind fun b1 S2 => if b1 then (getE ρ 1 S2).bind fun d8 S9 => (getE ρ 2 S9).bind fun d10 S11 => ixD d8 d10 S11 else Res.ok (D.str "") S2).bind fun d12 S13 => Res.ok (Fl.next (List.set ρ 4 (some d12))) S13) (_law_read_one_b0_1 n) := by kernel_rfl
noncomputable def _law_read_one_b1_0 (n : Nat) : EvS := exB (d__law_read_one.gm (pg.tab (n + 2)) false) 29 (List.drop 0 (ifA (at_ (defBody d__law_read_one.st) 1)))
noncomputable def _law_read_one_b1_1 (n : Nat) : EvS := fun ρ S => Res.ok (Fl.next ρ) S
theorem _law_read_one_b1_0_eq (n : Nat) (ρ : EnvD) (S : Store) : _law_read_one_b1_0 n ρ S = seqE (((consR (Res.ok D.non S) fun S14 => consR (getE ρ 2 S14) fun S15 => Res.ok [] S15).bind tupR).bind fun d16 S17 => Res.ok (Fl.ret d16) S17) (_law_read_one_b1_1 n) := by kernel_rfl
theorem _law_read_one_b0_1_eq (n : Nat) (ρ : EnvD) (S : Store) : _law_read_one_b0_1 n ρ S = seqE ((((getE ρ 3 S).bind fun d20 S21 => (Res.ok (D.int 39) S21).bind fun d22 S23 => cmpD .Gt d20 d22 S23).bind asB).bind fun b18 S19 => if b18 then _law_read_one_b1_0 n ρ S19 else Res.ok (Fl.next ρ) S19) (_law_read_one_b0_2 n) := by kernel_rfl
noncomputable def _law_read_one_b2_0 (n : Nat) : EvS := exB (d__law_read_one.gm (pg.tab (n + 2)) false) 29 (List.drop 0 (ifA (at_ (defBody d__law_read_one.st) 2)))
noncomputable def _law_read_one_b2_1 (n : Nat) : EvS := exB (d__law_read_one.gm (pg.tab (n + 2)) false) 29 (List.drop 1 (ifA (at_ (defBody d__law_read_one.st) 2)))
noncomputable def _law_read_one_b2_2 (n : Nat) : EvS := fun ρ S => Res.ok (Fl.next ρ) S
theorem _law_read_one_b2_0_eq (n : Nat) (ρ : EnvD) (S : Store) : _law_read_one_b2_0 n ρ S = seqE (((consR (getE ρ 0 S) fun S24 => consR (getE ρ 1 S24) fun S25 => consR ((getE ρ 2 S25).bind fun d27 S28 => (Res.ok (D.int 1) S28).bind fun d29 S30 => binD .Add d27 d29 S30) fun S26 => consR ((getE ρ 3 S26).bind fun d32 S33 => (Res.ok (D.int 1) S33).bind fun d34 S35 => binD .Add d32 d34 S35) fun S31 => Res.ok [] S31).bind (d__law_read_one.sem (pg.tab (n + 1)))).bind fun d36 S37 => tupS [5, 2] d36 ρ S37) (_law_read_one_b2_1 n) := by kernel_rfl
theorem _law_read_one_b2_1_eq (n : Nat) (ρ : EnvD) (S : Store) : _law_read_one_b2_1 n ρ S = seqE (((consR ((((getE ρ 5 S).bind fun d41 S42 => (Res.ok D.non S42).bind fun d43 S44 => cmpD .Is d41 d43 S44).bind asB).bind fun b39 S40 => if b39 then Res.ok D.non S40 else (consR (getE ρ 4 S40) fun S45 => consR (getE ρ 5 S45) fun S46 => Res.ok [] S46).bind tupR) fun S38 => consR (getE ρ 2 S38) fun S47 => Res.ok [] S47).bind tupR).bind fun d48 S49 => Res.ok (Fl.ret d48) S49) (_law_read_one_b2_2 n) := by kernel_rfl
theorem _law_read_one_b0_2_eq (n : Nat) (ρ : EnvD) (S : Store) : _law_read_one_b0_2 n ρ S = seqE ((((getE ρ 4 S).bind fun d52 S53 => ((consR (Res.ok (D.str "not") S53) fun S54 => consR (Res.ok (D.str "some") S54) fun S55 => consR (Res.ok (D.str "all") S55) fun S56 => Res.ok [] S56).bind tupR).bind fun d57 S58 => cmpD .In d52 d57 S58).bind asB).bind fun b50 S51 => if b50 then _law_read_one_b2_0 n ρ S51 else Res.ok (Fl.next ρ) S51) (_law_read_one_b0_3 n) := by kernel_rfl
noncomputable def _law_read_one_b3_0 (n : Nat) : EvS := exB (d__law_read_one.gm (pg.tab (n + 2)) false) 29 (List.drop 0 (ifA (at_ (defBody d__law_read_one.st) 3)))
noncomputable def _law_read_one_b3_1 (n : Nat) : EvS := exB (d__law_read_one.gm (pg.tab (n + 2)) false) 29 (List.drop 1 (ifA (at_ (defBody d__law_read_one.st) 3)))
noncomputable def _law_read_one_b3_2 (n : Nat) : EvS := exB (d__law_read_one.gm (pg.tab (n + 2)) false) 29 (List.drop 2 (ifA (at_ (defBody d__law_read_one.st) 3)))
noncomputable def _law_read_one_b3_3 (n : Nat) : EvS := exB (d__law_read_one.gm (pg.tab (n + 2)) false) 29 (List.drop 3 (ifA (at_ (defBody d__law_read_one.st) 3)))
noncomputable def _law_read_one_b3_4 (n : Nat) : EvS := fun ρ S => Res.ok (Fl.next ρ) S
noncomputable def _law_read_one_b4_0 (n : Nat) : EvS := exB (d__law_read_one.gm (pg.tab (n + 2)) false) 28 (List.drop 0 (ifA (at_ (ifA (at_ (defBody d__law_read_one.st) 3)) 0)))
noncomputable def _law_read_one_b4_1 (n : Nat) : EvS := fun ρ S => Res.ok (Fl.next ρ) S
theorem _law_read_one_b4_0_eq (n : Nat) (ρ : EnvD) (S : Store) : _law_read_one_b4_0 n ρ S = seqE (((consR (Res.ok D.non S) fun S59 => consR ((getE ρ 2 S59).bind fun d61 S62 => (Res.ok (D.int 1) S62).bind fun d63 S64 => binD .Add d61 d63 S64) fun S60 => Res.ok [] S60).bind tupR).bind fun d65 S66 => Res.ok (Fl.ret d65) S66) (_law_read_one_b4_1 n) := by kernel_rfl
theorem _law_read_one_b3_0_eq (n : Nat) (ρ : EnvD) (S : Store) : _law_read_one_b3_0 n ρ S = seqE ((orB ((((getE ρ 2 S).bind fun d70 S71 => (Res.ok (D.int 1) S71).bind fun d72 S73 => binD .Add d70 d72 S73).bind fun d74 S75 => ((consR (getE ρ 1 S75) fun S76 => Res.ok [] S76).bind lenD).bind fun d77 S78 => cmpD .GtE d74 d77 S78).bind asB) fun S69 => (((getE ρ 1 S69).bind fun d79 S80 => ((getE ρ 2 S80).bind fun d81 S82 => (Res.ok (D.int 1) S82).bind fun d83 S84 => binD .Add d81 d83 S84).bind fun d85 S86 => ixD d79 d85 S86).bind fun d87 S88 => ((consR (Res.ok (D.str "1") S88) fun S89 => consR (Res.ok (D.str "2") S89) fun S90 => Res.ok [] S90).bind tupR).bind fun d91 S92 => cmpD .NotIn d87 d91 S92).bind asB).bind fun b67 S68 => if b67 then _law_read_one_b4_0 n ρ S68 else Res.ok (Fl.next ρ) S68) (_law_read_one_b3_1 n) := by kernel_rfl
theorem _law_read_one_b3_1_eq (n : Nat) (ρ : EnvD) (S : Store) : _law_read_one_b3_1 n ρ S = seqE (((consR ((getE ρ 1 S).bind fun d94 S95 => ((getE ρ 2 S95).bind fun d96 S97 => (Res.ok (D.int 1) S97).bind fun d98 S99 => binD .Add d96 d98 S99).bind fun d100 S101 => ixD d94 d100 S101) fun S93 => Res.ok [] S93).bind intD).bind fun d102 S103 => Res.ok (Fl.next (List.set ρ 6 (some d102))) S103) (_law_read_one_b3_2 n) := by kernel_rfl
theorem _law_read_one_b3_2_eq (n : Nat) (ρ : EnvD) (S : Store) : _law_read_one_b3_2 n ρ S = seqE (((consR (getE ρ 0 S) fun S104 => consR (getE ρ 1 S104) fun S105 => consR ((getE ρ 2 S105).bind fun d107 S108 => (Res.ok (D.int 2) S108).bind fun d109 S110 => binD .Add d107 d109 S110) fun S106 => consR ((getE ρ 3 S106).bind fun d112 S113 => (Res.ok (D.int 1) S113).bind fun d114 S115 => binD .Add d112 d114 S115) fun S111 => Res.ok [] S111).bind (d__law_read_one.sem (pg.tab (n + 1)))).bind fun d116 S117 => tupS [5, 2] d116 ρ S117) (_law_read_one_b3_3 n) := by kernel_rfl
theorem _law_read_one_b3_3_eq (n : Nat) (ρ : EnvD) (S : Store) : _law_read_one_b3_3 n ρ S = seqE (((consR ((((getE ρ 5 S).bind fun d121 S122 => (Res.ok D.non S122).bind fun d123 S124 => cmpD .Is d121 d123 S124).bind asB).bind fun b119 S120 => if b119 then Res.ok D.non S120 else (consR (Res.ok (D.str "at") S120) fun S125 => consR (getE ρ 6 S125) fun S126 => consR (getE ρ 5 S126) fun S127 => Res.ok [] S127).bind tupR) fun S118 => consR (getE ρ 2 S118) fun S128 => Res.ok [] S128).bind tupR).bind fun d129 S130 => Res.ok (Fl.ret d129) S130) (_law_read_one_b3_4 n) := by kernel_rfl
theorem _law_read_one_b0_3_eq (n : Nat) (ρ : EnvD) (S : Store) : _law_read_one_b0_3 n ρ S = seqE ((((getE ρ 4 S).bind fun d133 S134 => (Res.ok (D.str "at") S134).bind fun d135 S136 => cmpD .Eq d133 d135 S136).bind asB).bind fun b131 S132 => if b131 then _law_read_one_b3_0 n ρ S132 else Res.ok (Fl.next ρ) S132) (_law_read_one_b0_4 n) := by kernel_rfl
noncomputable def _law_read_one_b5_0 (n : Nat) : EvS := exB (d__law_read_one.gm (pg.tab (n + 2)) false) 29 (List.drop 0 (ifA (at_ (defBody d__law_read_one.st) 4)))
noncomputable def _law_read_one_b5_1 (n : Nat) : EvS := exB (d__law_read_one.gm (pg.tab (n + 2)) false) 29 (List.drop 1 (ifA (at_ (defBody d__law_read_one.st) 4)))
noncomputable def _law_read_one_b5_2 (n : Nat) : EvS := exB (d__law_read_one.gm (pg.tab (n + 2)) false) 29 (List.drop 2 (ifA (at_ (defBody d__law_read_one.st) 4)))
noncomputable def _law_read_one_b5_3 (n : Nat) : EvS := fun ρ S => Res.ok (Fl.next ρ) S
theorem _law_read_one_b5_0_eq (n : Nat) (ρ : EnvD) (S : Store) : _law_read_one_b5_0 n ρ S = seqE (((consR (getE ρ 0 S) fun S137 => consR (getE ρ 1 S137) fun S138 => consR ((getE ρ 2 S138).bind fun d140 S141 => (Res.ok (D.int 1) S141).bind fun d142 S143 => binD .Add d140 d142 S143) fun S139 => consR ((getE ρ 3 S139).bind fun d145 S146 => (Res.ok (D.int 1) S146).bind fun d147 S148 => binD .Add d145 d147 S148) fun S144 => Res.ok [] S144).bind (d__law_read_or.sem (pg.tab (n + 1)))).bind fun d149 S150 => tupS [5, 2] d149 ρ S150) (_law_read_one_b5_1 n) := by kernel_rfl
noncomputable def _law_read_one_b6_0 (n : Nat) : EvS := exB (d__law_read_one.gm (pg.tab (n + 2)) false) 28 (List.drop 0 (ifA (at_ (ifA (at_ (defBody d__law_read_one.st) 4)) 1)))
noncomputable def _law_read_one_b6_1 (n : Nat) : EvS := fun ρ S => Res.ok (Fl.next ρ) S
theorem _law_read_one_b6_0_eq (n : Nat) (ρ : EnvD) (S : Store) : _law_read_one_b6_0 n ρ S = seqE (((consR (getE ρ 5 S) fun S151 => consR ((((getE ρ 5 S151).bind fun d155 S156 => (Res.ok D.non S156).bind fun d157 S158 => cmpD .Is d155 d157 S158).bind asB).bind fun b153 S154 => if b153 then getE ρ 2 S154 else (getE ρ 2 S154).bind fun d159 S160 => (Res.ok (D.int 1) S160).bind fun d161 S162 => binD .Add d159 d161 S162) fun S152 => Res.ok [] S152).bind tupR).bind fun d163 S164 => Res.ok (Fl.ret d163) S164) (_law_read_one_b6_1 n) := by kernel_rfl
theorem _law_read_one_b5_1_eq (n : Nat) (ρ : EnvD) (S : Store) : _law_read_one_b5_1 n ρ S = seqE ((orB (((getE ρ 5 S).bind fun d168 S169 => (Res.ok D.non S169).bind fun d170 S171 => cmpD .Is d168 d170 S171).bind asB) fun S167 => andB (((getE ρ 2 S167).bind fun d173 S174 => ((consR (getE ρ 1 S174) fun S175 => Res.ok [] S175).bind lenD).bind fun d176 S177 => cmpD .Lt d173 d176 S177).bind asB) fun S172 => (((getE ρ 1 S172).bind fun d178 S179 => (getE ρ 2 S179).bind fun d180 S181 => ixD d178 d180 S181).bind fun d182 S183 => (Res.ok (D.str ")") S183).bind fun d184 S185 => cmpD .Eq d182 d184 S185).bind asB).bind fun b165 S166 => if b165 then _law_read_one_b6_0 n ρ S166 else Res.ok (Fl.next ρ) S166) (_law_read_one_b5_2 n) := by kernel_rfl
theorem _law_read_one_b5_2_eq (n : Nat) (ρ : EnvD) (S : Store) : _law_read_one_b5_2 n ρ S = seqE (((consR (Res.ok D.non S) fun S186 => consR (getE ρ 2 S186) fun S187 => Res.ok [] S187).bind tupR).bind fun d188 S189 => Res.ok (Fl.ret d188) S189) (_law_read_one_b5_3 n) := by kernel_rfl
theorem _law_read_one_b0_4_eq (n : Nat) (ρ : EnvD) (S : Store) : _law_read_one_b0_4 n ρ S = seqE ((((getE ρ 4 S).bind fun d192 S193 => (Res.ok (D.str "(") S193).bind fun d194 S195 => cmpD .Eq d192 d194 S195).bind asB).bind fun b190 S191 => if b190 then _law_read_one_b5_0 n ρ S191 else Res.ok (Fl.next ρ) S191) (_law_read_one_b0_5 n) := by kernel_rfl
noncomputable def _law_read_one_b7_0 (n : Nat) : EvS := exB (d__law_read_one.gm (pg.tab (n + 2)) false) 29 (List.drop 0 (ifA (at_ (defBody d__law_read_one.st) 5)))
noncomputable def _law_read_one_b7_1 (n : Nat) : EvS := fun ρ S => Res.ok (Fl.next ρ) S
theorem _law_read_one_b7_0_eq (n : Nat) (ρ : EnvD) (S : Store) : _law_read_one_b7_0 n ρ S = seqE (((consR (Res.ok D.non S) fun S196 => consR (getE ρ 2 S196) fun S197 => Res.ok [] S197).bind tupR).bind fun d198 S199 => Res.ok (Fl.ret d198) S199) (_law_read_one_b7_1 n) := by kernel_rfl
theorem _law_read_one_b0_5_eq (n : Nat) (ρ : EnvD) (S : Store) : _law_read_one_b0_5 n ρ S = seqE ((((getE ρ 4 S).bind fun d202 S203 => (Res.ok (D.str "is") S203).bind fun d204 S205 => cmpD .NotEq d202 d204 S205).bind asB).bind fun b200 S201 => if b200 then _law_read_one_b7_0 n ρ S201 else Res.ok (Fl.next ρ) S201) (_law_read_one_b0_6 n) := by kernel_rfl
noncomputable def _law_read_one_b8_0 (n : Nat) : EvS := exB (d__law_read_one.gm (pg.tab (n + 2)) false) 29 (List.drop 0 (ifA (at_ (defBody d__law_read_one.st) 6)))
noncomputable def _law_read_one_b8_1 (n : Nat) : EvS := fun ρ S => Res.ok (Fl.next ρ) S
theorem _law_read_one_b8_0_eq (n : Nat) (ρ : EnvD) (S : Store) : _law_read_one_b8_0 n ρ S = seqE (((consR (Res.ok D.non S) fun S206 => consR ((getE ρ 2 S206).bind fun d208 S209 => (Res.ok (D.int 1) S209).bind fun d210 S211 => binD .Add d208 d210 S211) fun S207 => Res.ok [] S207).bind tupR).bind fun d212 S213 => Res.ok (Fl.ret d212) S213) (_law_read_one_b8_1 n) := by kernel_rfl
theorem _law_read_one_b0_6_eq (n : Nat) (ρ : EnvD) (S : Store) : _law_read_one_b0_6 n ρ S = seqE ((orB ((((getE ρ 2 S).bind fun d217 S218 => (Res.ok (D.int 1) S218).bind fun d219 S220 => binD .Add d217 d219 S220).bind fun d221 S222 => ((consR (getE ρ 1 S222) fun S223 => Res.ok [] S223).bind lenD).bind fun d224 S225 => cmpD .GtE d221 d224 S225).bind asB) fun S216 => (((getE ρ 1 S216).bind fun d226 S227 => ((getE ρ 2 S227).bind fun d228 S229 => (Res.ok (D.int 1) S229).bind fun d230 S231 => binD .Add d228 d230 S231).bind fun d232 S233 => ixD d226 d232 S233).bind fun d234 S235 => (getE ρ 0 S235).bind fun d236 S237 => cmpD .NotIn d234 d236 S237).bind asB).bind fun b214 S215 => if b214 then _law_read_one_b8_0 n ρ S215 else Res.ok (Fl.next ρ) S215) (_law_read_one_b0_7 n) := by kernel_rfl
theorem _law_read_one_b0_7_eq (n : Nat) (ρ : EnvD) (S : Store) : _law_read_one_b0_7 n ρ S = seqE (((consR ((consR (Res.ok (D.str "is") S) fun S239 => consR ((getE ρ 1 S239).bind fun d241 S242 => ((getE ρ 2 S242).bind fun d243 S244 => (Res.ok (D.int 1) S244).bind fun d245 S246 => binD .Add d243 d245 S246).bind fun d247 S248 => ixD d241 d247 S248) fun S240 => Res.ok [] S240).bind tupR) fun S238 => consR ((getE ρ 2 S238).bind fun d250 S251 => (Res.ok (D.int 2) S251).bind fun d252 S253 => binD .Add d250 d252 S253) fun S249 => Res.ok [] S249).bind tupR).bind fun d254 S255 => Res.ok (Fl.ret d254) S255) (_law_read_one_b0_8 n) := by kernel_rfl
theorem _law_read_one_sem (n : Nat) (p0 p1 p2 p3 : D) (S : Store) : d__law_read_one.sem (pg.tab (n + 2)) [p0, p1, p2, p3] S = outR .cut S (_law_read_one_b0_0 n [some p0, some p1, some p2, some p3, none, none, none] S) := by kernel_rfl
noncomputable def _law_read_and_b0_0 (n : Nat) : EvS := exB (d__law_read_and.gm (pg.tab (n + 2)) false) 30 (List.drop 0 (defBody d__law_read_and.st))
noncomputable def _law_read_and_b0_1 (n : Nat) : EvS := exB (d__law_read_and.gm (pg.tab (n + 2)) false) 30 (List.drop 1 (defBody d__law_read_and.st))
noncomputable def _law_read_and_b0_2 (n : Nat) : EvS := exB (d__law_read_and.gm (pg.tab (n + 2)) false) 30 (List.drop 2 (defBody d__law_read_and.st))
noncomputable def _law_read_and_b0_3 (n : Nat) : EvS := fun ρ S => Res.ok (Fl.next ρ) S
theorem _law_read_and_b0_0_eq (n : Nat) (ρ : EnvD) (S : Store) : _law_read_and_b0_0 n ρ S = seqE (((consR (getE ρ 0 S) fun S1 => consR (getE ρ 1 S1) fun S2 => consR (getE ρ 2 S2) fun S3 => consR (getE ρ 3 S3) fun S4 => Res.ok [] S4).bind (d__law_read_one.sem (pg.tab (n + 1)))).bind fun d5 S6 => tupS [4, 2] d5 ρ S6) (_law_read_and_b0_1 n) := by kernel_rfl
noncomputable def _law_read_and_b1_0 (n : Nat) : EvS := exB (d__law_read_and.gm (pg.tab (n + 2)) false) 29 (List.drop 0 (forB (at_ (defBody d__law_read_and.st) 1)))
noncomputable def _law_read_and_b1_1 (n : Nat) : EvS := fun ρ S => Res.ok (Fl.next ρ) S
noncomputable def _law_read_and_b2_0 (n : Nat) : EvS := exB (d__law_read_and.gm (pg.tab (n + 2)) false) 28 (List.drop 0 (ifA (at_ (forB (at_ (defBody d__law_read_and.st) 1)) 0)))
noncomputable def _law_read_and_b2_1 (n : Nat) : EvS := exB (d__law_read_and.gm (pg.tab (n + 2)) false) 28 (List.drop 1 (ifA (at_ (forB (at_ (defBody d__law_read_and.st) 1)) 0)))
noncomputable def _law_read_and_b2_2 (n : Nat) : EvS := fun ρ S => Res.ok (Fl.next ρ) S
theorem _law_read_and_b2_0_eq (n : Nat) (ρ : EnvD) (S : Store) : _law_read_and_b2_0 n ρ S = seqE (((consR (getE ρ 0 S) fun S7 => consR (getE ρ 1 S7) fun S8 => consR ((getE ρ 2 S8).bind fun d10 S11 => (Res.ok (D.int 1) S11).bind fun d12 S13 => binD .Add d10 d12 S13) fun S9 => consR (getE ρ 3 S9) fun S14 => Res.ok [] S14).bind (d__law_read_one.sem (pg.tab (n + 1)))).bind fun d15 S16 => tupS [6, 2] d15 ρ S16) (_law_read_and_b2_1 n) := by kernel_rfl
theorem _law_read_and_b2_1_eq (n : Nat) (ρ : EnvD) (S : Store) : _law_read_and_b2_1 n ρ S = seqE (((((getE ρ 6 S).bind fun d19 S20 => (Res.ok D.non S20).bind fun d21 S22 => cmpD .Is d19 d21 S22).bind asB).bind fun b17 S18 => if b17 then Res.ok D.non S18 else (consR (Res.ok (D.str "and") S18) fun S23 => consR (getE ρ 4 S23) fun S24 => consR (getE ρ 6 S24) fun S25 => Res.ok [] S25).bind tupR).bind fun d26 S27 => Res.ok (Fl.next (List.set ρ 4 (some d26))) S27) (_law_read_and_b2_2 n) := by kernel_rfl
theorem _law_read_and_b1_0_eq (n : Nat) (ρ : EnvD) (S : Store) : _law_read_and_b1_0 n ρ S = seqE ((andB (((getE ρ 4 S).bind fun d31 S32 => (Res.ok D.non S32).bind fun d33 S34 => cmpD .IsNot d31 d33 S34).bind asB) fun S30 => andB (((getE ρ 2 S30).bind fun d36 S37 => ((consR (getE ρ 1 S37) fun S38 => Res.ok [] S38).bind lenD).bind fun d39 S40 => cmpD .Lt d36 d39 S40).bind asB) fun S35 => (((getE ρ 1 S35).bind fun d41 S42 => (getE ρ 2 S42).bind fun d43 S44 => ixD d41 d43 S44).bind fun d45 S46 => (Res.ok (D.str "and") S46).bind fun d47 S48 => cmpD .Eq d45 d47 S48).bind asB).bind fun b28 S29 => if b28 then _law_read_and_b2_0 n ρ S29 else Res.ok (Fl.next ρ) S29) (_law_read_and_b1_1 n) := by kernel_rfl
theorem _law_read_and_b0_1_eq (n : Nat) (ρ : EnvD) (S : Store) : _law_read_and_b0_1 n ρ S = seqE ((((consR (getE ρ 1 S) fun S51 => Res.ok [] S51).bind lenD).bind rng1).bind fun p49 S50 => forE (fun x r => some (List.set r 5 (some x))) (_law_read_and_b1_0 n) p49.2 p49.1 p49.1 ρ S50) (_law_read_and_b0_2 n) := by kernel_rfl
theorem _law_read_and_b0_2_eq (n : Nat) (ρ : EnvD) (S : Store) : _law_read_and_b0_2 n ρ S = seqE (((consR (getE ρ 4 S) fun S52 => consR (getE ρ 2 S52) fun S53 => Res.ok [] S53).bind tupR).bind fun d54 S55 => Res.ok (Fl.ret d54) S55) (_law_read_and_b0_3 n) := by kernel_rfl
theorem _law_read_and_sem (n : Nat) (p0 p1 p2 p3 : D) (S : Store) : d__law_read_and.sem (pg.tab (n + 2)) [p0, p1, p2, p3] S = outR .cut S (_law_read_and_b0_0 n [some p0, some p1, some p2, some p3, none, none, none] S) := by kernel_rfl
noncomputable def _law_read_or_b0_0 (n : Nat) : EvS := exB (d__law_read_or.gm (pg.tab (n + 2)) false) 30 (List.drop 0 (defBody d__law_read_or.st))
noncomputable def _law_read_or_b0_1 (n : Nat) : EvS := exB (d__law_read_or.gm (pg.tab (n + 2)) false) 30 (List.drop 1 (defBody d__law_read_or.st))
noncomputable def _law_read_or_b0_2 (n : Nat) : EvS := exB (d__law_read_or.gm (pg.tab (n + 2)) false) 30 (List.drop 2 (defBody d__law_read_or.st))
noncomputable def _law_read_or_b0_3 (n : Nat) : EvS := fun ρ S => Res.ok (Fl.next ρ) S
theorem _law_read_or_b0_0_eq (n : Nat) (ρ : EnvD) (S : Store) : _law_read_or_b0_0 n ρ S = seqE (((consR (getE ρ 0 S) fun S1 => consR (getE ρ 1 S1) fun S2 => consR (getE ρ 2 S2) fun S3 => consR (getE ρ 3 S3) fun S4 => Res.ok [] S4).bind (d__law_read_and.sem (pg.tab (n + 1)))).bind fun d5 S6 => tupS [4, 2] d5 ρ S6) (_law_read_or_b0_1 n) := by kernel_rfl
noncomputable def _law_read_or_b1_0 (n : Nat) : EvS := exB (d__law_read_or.gm (pg.tab (n + 2)) false) 29 (List.drop 0 (forB (at_ (defBody d__law_read_or.st) 1)))
noncomputable def _law_read_or_b1_1 (n : Nat) : EvS := fun ρ S => Res.ok (Fl.next ρ) S
noncomputable def _law_read_or_b2_0 (n : Nat) : EvS := exB (d__law_read_or.gm (pg.tab (n + 2)) false) 28 (List.drop 0 (ifA (at_ (forB (at_ (defBody d__law_read_or.st) 1)) 0)))
noncomputable def _law_read_or_b2_1 (n : Nat) : EvS := exB (d__law_read_or.gm (pg.tab (n + 2)) false) 28 (List.drop 1 (ifA (at_ (forB (at_ (defBody d__law_read_or.st) 1)) 0)))
noncomputable def _law_read_or_b2_2 (n : Nat) : EvS := fun ρ S => Res.ok (Fl.next ρ) S
theorem _law_read_or_b2_0_eq (n : Nat) (ρ : EnvD) (S : Store) : _law_read_or_b2_0 n ρ S = seqE (((consR (getE ρ 0 S) fun S7 => consR (getE ρ 1 S7) fun S8 => consR ((getE ρ 2 S8).bind fun d10 S11 => (Res.ok (D.int 1) S11).bind fun d12 S13 => binD .Add d10 d12 S13) fun S9 => consR (getE ρ 3 S9) fun S14 => Res.ok [] S14).bind (d__law_read_and.sem (pg.tab (n + 1)))).bind fun d15 S16 => tupS [6, 2] d15 ρ S16) (_law_read_or_b2_1 n) := by kernel_rfl
theorem _law_read_or_b2_1_eq (n : Nat) (ρ : EnvD) (S : Store) : _law_read_or_b2_1 n ρ S = seqE (((((getE ρ 6 S).bind fun d19 S20 => (Res.ok D.non S20).bind fun d21 S22 => cmpD .Is d19 d21 S22).bind asB).bind fun b17 S18 => if b17 then Res.ok D.non S18 else (consR (Res.ok (D.str "or") S18) fun S23 => consR (getE ρ 4 S23) fun S24 => consR (getE ρ 6 S24) fun S25 => Res.ok [] S25).bind tupR).bind fun d26 S27 => Res.ok (Fl.next (List.set ρ 4 (some d26))) S27) (_law_read_or_b2_2 n) := by kernel_rfl
theorem _law_read_or_b1_0_eq (n : Nat) (ρ : EnvD) (S : Store) : _law_read_or_b1_0 n ρ S = seqE ((andB (((getE ρ 4 S).bind fun d31 S32 => (Res.ok D.non S32).bind fun d33 S34 => cmpD .IsNot d31 d33 S34).bind asB) fun S30 => andB (((getE ρ 2 S30).bind fun d36 S37 => ((consR (getE ρ 1 S37) fun S38 => Res.ok [] S38).bind lenD).bind fun d39 S40 => cmpD .Lt d36 d39 S40).bind asB) fun S35 => (((getE ρ 1 S35).bind fun d41 S42 => (getE ρ 2 S42).bind fun d43 S44 => ixD d41 d43 S44).bind fun d45 S46 => (Res.ok (D.str "or") S46).bind fun d47 S48 => cmpD .Eq d45 d47 S48).bind asB).bind fun b28 S29 => if b28 then _law_read_or_b2_0 n ρ S29 else Res.ok (Fl.next ρ) S29) (_law_read_or_b1_1 n) := by kernel_rfl
theorem _law_read_or_b0_1_eq (n : Nat) (ρ : EnvD) (S : Store) : _law_read_or_b0_1 n ρ S = seqE ((((consR (getE ρ 1 S) fun S51 => Res.ok [] S51).bind lenD).bind rng1).bind fun p49 S50 => forE (fun x r => some (List.set r 5 (some x))) (_law_read_or_b1_0 n) p49.2 p49.1 p49.1 ρ S50) (_law_read_or_b0_2 n) := by kernel_rfl
theorem _law_read_or_b0_2_eq (n : Nat) (ρ : EnvD) (S : Store) : _law_read_or_b0_2 n ρ S = seqE (((consR (getE ρ 4 S) fun S52 => consR (getE ρ 2 S52) fun S53 => Res.ok [] S53).bind tupR).bind fun d54 S55 => Res.ok (Fl.ret d54) S55) (_law_read_or_b0_3 n) := by kernel_rfl
theorem _law_read_or_sem (n : Nat) (p0 p1 p2 p3 : D) (S : Store) : d__law_read_or.sem (pg.tab (n + 2)) [p0, p1, p2, p3] S = outR .cut S (_law_read_or_b0_0 n [some p0, some p1, some p2, some p3, none, none, none] S) := by kernel_rfl
noncomputable def _law_asked_text_b0_0 (n : Nat) : EvS := exB (d__law_asked_text.gm (pg.tab (n + 2)) false) 30 (List.drop 0 (defBody d__law_asked_text.st))
noncomputable def _law_asked_text_b0_1 (n : Nat) : EvS := exB (d__law_asked_text.gm (pg.tab (n + 2)) false) 30 (List.drop 1 (defBody d__law_asked_text.st))
noncomputable def _law_asked_text_b0_2 (n : Nat) : EvS := exB (d__law_asked_text.gm (pg.tab (n + 2)) false) 30 (List.drop 2 (defBody d__law_asked_text.st))
noncomputable def _law_asked_text_b0_3 (n : Nat) : EvS := exB (d__law_asked_text.gm (pg.tab (n + 2)) false) 30 (List.drop 3 (defBody d__law_asked_text.st))
noncomputable def _law_asked_text_b0_4 (n : Nat) : EvS := exB (d__law_asked_text.gm (pg.tab (n + 2)) false) 30 (List.drop 4 (defBody d__law_asked_text.st))
noncomputable def _law_asked_text_b0_5 (n : Nat) : EvS := fun ρ S => Res.ok (Fl.next ρ) S
theorem _law_asked_text_b0_0_eq (n : Nat) (ρ : EnvD) (S : Store) : _law_asked_text_b0_0 n ρ S = seqE (((consR (getE ρ 1 S) fun S1 => Res.ok [] S1).bind (d__law_signs.sem (pg.tab (n + 1)))).bind fun d2 S3 => Res.ok (Fl.next (List.set ρ 2 (some d2))) S3) (_law_asked_text_b0_1 n) := by kernel_rfl
theorem _law_asked_text_b0_1_eq (n : Nat) (ρ : EnvD) (S : Store) : _law_asked_text_b0_1 n ρ S = seqE (((consR (((getE ρ 0 S).bind iterD).bind fun p5 S6 => compR (fun x => some (List.set (wipeD ρ [7]) 7 (some x))) (fun _ S => Res.ok true S) (fun r9 S10 => (getE r9 7 S10).bind fun d11 S12 => (Res.ok (D.int 0) S12).bind fun d13 S14 => ixD d11 d13 S14) p5 S6) fun S4 => consR (getE ρ 2 S4) fun S15 => consR (Res.ok (D.int 0) S15) fun S16 => consR (Res.ok (D.int 0) S16) fun S17 => Res.ok [] S17).bind (d__law_read_or.sem (pg.tab (n + 1)))).bind fun d18 S19 => tupS [3, 4] d18 ρ S19) (_law_asked_text_b0_2 n) := by kernel_rfl
noncomputable def _law_asked_text_b1_0 (n : Nat) : EvS := exB (d__law_asked_text.gm (pg.tab (n + 2)) false) 29 (List.drop 0 (ifA (at_ (defBody d__law_asked_text.st) 2)))
noncomputable def _law_asked_text_b1_1 (n : Nat) : EvS := fun ρ S => Res.ok (Fl.next ρ) S
theorem _law_asked_text_b1_0_eq (n : Nat) (ρ : EnvD) (S : Store) : _law_asked_text_b1_0 n ρ S = seqE ((Res.ok D.non S).bind fun d20 S21 => Res.ok (Fl.next (List.set ρ 3 (some d20))) S21) (_law_asked_text_b1_1 n) := by kernel_rfl
theorem _law_asked_text_b0_2_eq (n : Nat) (ρ : EnvD) (S : Store) : _law_asked_text_b0_2 n ρ S = seqE ((andB (((getE ρ 3 S).bind fun d25 S26 => (Res.ok D.non S26).bind fun d27 S28 => cmpD .IsNot d25 d27 S28).bind asB) fun S24 => ((getE ρ 4 S24).bind fun d29 S30 => ((consR (getE ρ 2 S30) fun S31 => Res.ok [] S31).bind lenD).bind fun d32 S33 => cmpD .Lt d29 d32 S33).bind asB).bind fun b22 S23 => if b22 then _law_asked_text_b1_0 n ρ S23 else Res.ok (Fl.next ρ) S23) (_law_asked_text_b0_3 n) := by kernel_rfl
-- _law_asked_text_b0_3: stmt Try
theorem _law_asked_text_b0_4_eq (n : Nat) (ρ : EnvD) (S : Store) : _law_asked_text_b0_4 n ρ S = seqE ((andR ((getE ρ 3 S).bind fun d35 S36 => (Res.ok D.non S36).bind fun d37 S38 => cmpD .IsNot d35 d37 S38) fun S34 => (consR (getE ρ 5 S34) fun S39 => consR (getE ρ 3 S39) fun S40 => Res.ok [] S40).bind (d__law_same.sem (pg.tab (n + 1)))).bind fun d41 S42 => Res.ok (Fl.ret d41) S42) (_law_asked_text_b0_5 n) := by kernel_rfl
theorem _law_asked_text_sem (n : Nat) (p0 p1 : D) (S : Store) : d__law_asked_text.sem (pg.tab (n + 2)) [p0, p1] S = outR .cut S (_law_asked_text_b0_0 n [some p0, some p1, none, none, none, none, none, none] S) := by kernel_rfl
noncomputable def _law_held_b0_0 (n : Nat) : EvS := exB (d__law_held.gm (pg.tab (n + 2)) false) 30 (List.drop 0 (defBody d__law_held.st))
noncomputable def _law_held_b0_1 (n : Nat) : EvS := exB (d__law_held.gm (pg.tab (n + 2)) false) 30 (List.drop 1 (defBody d__law_held.st))
noncomputable def _law_held_b0_2 (n : Nat) : EvS := exB (d__law_held.gm (pg.tab (n + 2)) false) 30 (List.drop 2 (defBody d__law_held.st))
noncomputable def _law_held_b0_3 (n : Nat) : EvS := fun ρ S => Res.ok (Fl.next ρ) S
theorem _law_held_b0_0_eq (n : Nat) (ρ : EnvD) (S : Store) : _law_held_b0_0 n ρ S = seqE (((Res.ok (D.str "is ") S).bind fun d1 S2 => (((getE ρ 1 S2).bind fun d3 S4 => (Res.ok (D.int 0) S4).bind fun d5 S6 => ixD d3 d5 S6).bind fun d7 S8 => (Res.ok (D.int 0) S8).bind fun d9 S10 => ixD d7 d9 S10).bind fun d11 S12 => binD .Add d1 d11 S12).bind fun d13 S14 => Res.ok (Fl.next (List.set ρ 3 (some d13))) S14) (_law_held_b0_1 n) := by kernel_rfl
noncomputable def _law_held_b1_0 (n : Nat) : EvS := exB (d__law_held.gm (pg.tab (n + 2)) false) 29 (List.drop 0 (forB (at_ (defBody d__law_held.st) 1)))
noncomputable def _law_held_b1_1 (n : Nat) : EvS := exB (d__law_held.gm (pg.tab (n + 2)) false) 29 (List.drop 1 (forB (at_ (defBody d__law_held.st) 1)))
noncomputable def _law_held_b1_2 (n : Nat) : EvS := fun ρ S => Res.ok (Fl.next ρ) S
theorem _law_held_b1_0_eq (n : Nat) (ρ : EnvD) (S : Store) : _law_held_b1_0 n ρ S = seqE ((((consR (getE ρ 0 S) fun S15 => Res.ok [] S15).bind (d__law_pick.sem (pg.tab (n + 1)))).bind fun d16 S17 => (Res.ok (D.int 3) S17).bind fun d18 S19 => binD .Mod d16 d18 S19).bind fun d20 S21 => Res.ok (Fl.next (List.set ρ 5 (some d20))) S21) (_law_held_b1_1 n) := by kernel_rfl
theorem _law_held_b1_1_eq (n : Nat) (ρ : EnvD) (S : Store) : _law_held_b1_1 n ρ S = seqE ((((consR ((Res.ok (D.str "not ") S).bind fun d23 S24 => (getE ρ 3 S24).bind fun d25 S26 => binD .Add d23 d25 S26) fun S22 => consR ((Res.ok (D.str "at 2 ") S22).bind fun d28 S29 => (getE ρ 3 S29).bind fun d30 S31 => binD .Add d28 d30 S31) fun S27 => consR (((Res.ok (D.str "(") S27).bind fun d33 S34 => (getE ρ 3 S34).bind fun d35 S36 => binD .Add d33 d35 S36).bind fun d37 S38 => (Res.ok (D.str ")") S38).bind fun d39 S40 => binD .Add d37 d39 S40) fun S32 => Res.ok [] S32).bind tupR).bind fun d41 S42 => (getE ρ 5 S42).bind fun d43 S44 => ixD d41 d43 S44).bind fun d45 S46 => Res.ok (Fl.next (List.set ρ 3 (some d45))) S46) (_law_held_b1_2 n) := by kernel_rfl
theorem _law_held_b0_1_eq (n : Nat) (ρ : EnvD) (S : Store) : _law_held_b0_1 n ρ S = seqE (((getE ρ 2 S).bind rng1).bind fun p47 S48 => forE (fun x r => some (List.set r 4 (some x))) (_law_held_b1_0 n) p47.2 p47.1 p47.1 ρ S48) (_law_held_b0_2 n) := by kernel_rfl
theorem _law_held_b0_2_eq (n : Nat) (ρ : EnvD) (S : Store) : _law_held_b0_2 n ρ S = seqE ((getE ρ 3 S).bind fun d49 S50 => Res.ok (Fl.ret d49) S50) (_law_held_b0_3 n) := by kernel_rfl
theorem _law_held_sem (n : Nat) (p0 p1 p2 : D) (S : Store) : d__law_held.sem (pg.tab (n + 2)) [p0, p1, p2] S = outR .cut S (_law_held_b0_0 n [some p0, some p1, some p2, none, none, none] S) := by kernel_rfl
end
end T80

set_option linter.all false
set_option maxRecDepth 100000
set_option maxHeartbeats 4000000
namespace T80
open PySem PySem.Spec PyProof.Rows L2 E
noncomputable section
noncomputable def H_law_same_b0_0 (n : Nat) : EvS := exB (d__law_same.gm (pg.tab (n + 2)) true) 30 (List.drop 0 (defBody d__law_same.st))
noncomputable def H_law_same_b0_1 (n : Nat) : EvS := exB (d__law_same.gm (pg.tab (n + 2)) true) 30 (List.drop 1 (defBody d__law_same.st))
noncomputable def H_law_same_b0_2 (n : Nat) : EvS := exB (d__law_same.gm (pg.tab (n + 2)) true) 30 (List.drop 2 (defBody d__law_same.st))
noncomputable def H_law_same_b0_3 (n : Nat) : EvS := exB (d__law_same.gm (pg.tab (n + 2)) true) 30 (List.drop 3 (defBody d__law_same.st))
noncomputable def H_law_same_b0_4 (n : Nat) : EvS := exB (d__law_same.gm (pg.tab (n + 2)) true) 30 (List.drop 4 (defBody d__law_same.st))
noncomputable def H_law_same_b0_5 (n : Nat) : EvS := exB (d__law_same.gm (pg.tab (n + 2)) true) 30 (List.drop 5 (defBody d__law_same.st))
noncomputable def H_law_same_b0_6 (n : Nat) : EvS := exB (d__law_same.gm (pg.tab (n + 2)) true) 30 (List.drop 6 (defBody d__law_same.st))
noncomputable def H_law_same_b0_7 (n : Nat) : EvS := fun ρ S => Res.ok (Fl.next ρ) S
noncomputable def H_law_same_b1_0 (n : Nat) : EvS := exB (d__law_same.gm (pg.tab (n + 2)) true) 29 (List.drop 0 (ifA (at_ (defBody d__law_same.st) 0)))
noncomputable def H_law_same_b1_1 (n : Nat) : EvS := fun ρ S => Res.ok (Fl.next ρ) S
theorem H_law_same_b1_0_eq (n : Nat) (ρ : EnvD) (S : Store) : H_law_same_b1_0 n ρ S = seqE ((andR ((getE ρ 1 S).bind fun d2 S3 => isiD "bool" [d2] S3) fun S1 => andR ((getE ρ 0 S1).bind fun d5 S6 => isiD "bool" [d5] S6) fun S4 => (getE ρ 0 S4).bind fun d7 S8 => (getE ρ 1 S8).bind fun d9 S10 => cmpD .Eq d7 d9 S10).bind fun d11 S12 => Res.ok (Fl.ret d11) S12) (H_law_same_b1_1 n) := by kernel_rfl
theorem H_law_same_b0_0_eq (n : Nat) (ρ : EnvD) (S : Store) : H_law_same_b0_0 n ρ S = seqE ((orB (truR ((getE ρ 1 S).bind fun d16 S17 => isiD "bool" [d16] S17)) fun S15 => truR ((getE ρ 0 S15).bind fun d18 S19 => isiD "bool" [d18] S19)).bind fun b13 S14 => if b13 then H_law_same_b1_0 n ρ S14 else Res.ok (Fl.next ρ) S14) (H_law_same_b0_1 n) := by kernel_rfl
noncomputable def H_law_same_b2_0 (n : Nat) : EvS := exB (d__law_same.gm (pg.tab (n + 2)) true) 29 (List.drop 0 (ifA (at_ (defBody d__law_same.st) 1)))
noncomputable def H_law_same_b2_1 (n : Nat) : EvS := fun ρ S => Res.ok (Fl.next ρ) S
theorem H_law_same_b2_0_eq (n : Nat) (ρ : EnvD) (S : Store) : H_law_same_b2_0 n ρ S = seqE ((andR ((getE ρ 0 S).bind fun d21 S22 => (getE ρ 1 S22).bind fun d23 S24 => cmpD .Eq d21 d23 S24) fun S20 => orR ((getE ρ 1 S20).bind fun d26 S27 => (Res.ok D.non S27).bind fun d28 S29 => cmpD .Is d26 d28 S29) fun S25 => (getE ρ 0 S25).bind fun d30 S31 => isiD "int" [d30] S31).bind fun d32 S33 => Res.ok (Fl.ret d32) S33) (H_law_same_b2_1 n) := by kernel_rfl
theorem H_law_same_b0_1_eq (n : Nat) (ρ : EnvD) (S : Store) : H_law_same_b0_1 n ρ S = seqE ((orB (((getE ρ 1 S).bind fun d37 S38 => (Res.ok D.non S38).bind fun d39 S40 => cmpD .Is d37 d39 S40).bind asB) fun S36 => truR ((getE ρ 1 S36).bind fun d41 S42 => isiD "int" [d41] S42)).bind fun b34 S35 => if b34 then H_law_same_b2_0 n ρ S35 else Res.ok (Fl.next ρ) S35) (H_law_same_b0_2 n) := by kernel_rfl
noncomputable def H_law_same_b3_0 (n : Nat) : EvS := exB (d__law_same.gm (pg.tab (n + 2)) true) 29 (List.drop 0 (ifA (at_ (defBody d__law_same.st) 2)))
noncomputable def H_law_same_b3_1 (n : Nat) : EvS := fun ρ S => Res.ok (Fl.next ρ) S
theorem H_law_same_b3_0_eq (n : Nat) (ρ : EnvD) (S : Store) : H_law_same_b3_0 n ρ S = seqE ((andR ((getE ρ 0 S).bind fun d44 S45 => isiD "str" [d44] S45) fun S43 => (getE ρ 0 S43).bind fun d46 S47 => (getE ρ 1 S47).bind fun d48 S49 => cmpD .Eq d46 d48 S49).bind fun d50 S51 => Res.ok (Fl.ret d50) S51) (H_law_same_b3_1 n) := by kernel_rfl
theorem H_law_same_b0_2_eq (n : Nat) (ρ : EnvD) (S : Store) : H_law_same_b0_2 n ρ S = seqE ((truR ((getE ρ 1 S).bind fun d54 S55 => isiD "str" [d54] S55)).bind fun b52 S53 => if b52 then H_law_same_b3_0 n ρ S53 else Res.ok (Fl.next ρ) S53) (H_law_same_b0_3 n) := by kernel_rfl
noncomputable def H_law_same_b4_0 (n : Nat) : EvS := exB (d__law_same.gm (pg.tab (n + 2)) true) 29 (List.drop 0 (ifA (at_ (defBody d__law_same.st) 3)))
noncomputable def H_law_same_b4_1 (n : Nat) : EvS := fun ρ S => Res.ok (Fl.next ρ) S
theorem H_law_same_b4_0_eq (n : Nat) (ρ : EnvD) (S : Store) : H_law_same_b4_0 n ρ S = seqE ((Res.ok (D.bl false) S).bind fun d56 S57 => Res.ok (Fl.ret d56) S57) (H_law_same_b4_1 n) := by kernel_rfl
theorem H_law_same_b0_3_eq (n : Nat) (ρ : EnvD) (S : Store) : H_law_same_b0_3 n ρ S = seqE ((orB ((((getE ρ 1 S).bind fun d61 S62 => isiD "list" [d61] S62).bind fun d63 S64 => ((getE ρ 0 S64).bind fun d65 S66 => isiD "list" [d65] S66).bind fun d67 S68 => cmpD .NotEq d63 d67 S68).bind asB) fun S60 => (((getE ρ 1 S60).bind fun d69 S70 => isiD "tuple" [d69] S70).bind fun d71 S72 => ((getE ρ 0 S72).bind fun d73 S74 => isiD "tuple" [d73] S74).bind fun d75 S76 => cmpD .NotEq d71 d75 S76).bind asB).bind fun b58 S59 => if b58 then H_law_same_b4_0 n ρ S59 else Res.ok (Fl.next ρ) S59) (H_law_same_b0_4 n) := by kernel_rfl
noncomputable def H_law_same_b5_0 (n : Nat) : EvS := exB (d__law_same.gm (pg.tab (n + 2)) true) 29 (List.drop 0 (ifA (at_ (defBody d__law_same.st) 4)))
noncomputable def H_law_same_b5_1 (n : Nat) : EvS := fun ρ S => Res.ok (Fl.next ρ) S
theorem H_law_same_b5_0_eq (n : Nat) (ρ : EnvD) (S : Store) : H_law_same_b5_0 n ρ S = seqE ((Res.ok (D.bl false) S).bind fun d77 S78 => Res.ok (Fl.ret d77) S78) (H_law_same_b5_1 n) := by kernel_rfl
theorem H_law_same_b0_4_eq (n : Nat) (ρ : EnvD) (S : Store) : H_law_same_b0_4 n ρ S = seqE (((((consR (getE ρ 0 S) fun S81 => Res.ok [] S81).bind lenD).bind fun d82 S83 => ((consR (getE ρ 1 S83) fun S84 => Res.ok [] S84).bind lenD).bind fun d85 S86 => cmpD .NotEq d82 d85 S86).bind asB).bind fun b79 S80 => if b79 then H_law_same_b5_0 n ρ S80 else Res.ok (Fl.next ρ) S80) (H_law_same_b0_5 n) := by kernel_rfl
noncomputable def H_law_same_b6_0 (n : Nat) : EvS := exB (d__law_same.gm (pg.tab (n + 2)) true) 29 (List.drop 0 (forB (at_ (defBody d__law_same.st) 5)))
noncomputable def H_law_same_b6_1 (n : Nat) : EvS := fun ρ S => Res.ok (Fl.next ρ) S
noncomputable def H_law_same_b7_0 (n : Nat) : EvS := exB (d__law_same.gm (pg.tab (n + 2)) true) 28 (List.drop 0 (ifA (at_ (forB (at_ (defBody d__law_same.st) 5)) 0)))
noncomputable def H_law_same_b7_1 (n : Nat) : EvS := fun ρ S => Res.ok (Fl.next ρ) S
theorem H_law_same_b7_0_eq (n : Nat) (ρ : EnvD) (S : Store) : H_law_same_b7_0 n ρ S = seqE ((Res.ok (D.bl false) S).bind fun d87 S88 => Res.ok (Fl.ret d87) S88) (H_law_same_b7_1 n) := by kernel_rfl
theorem H_law_same_b6_0_eq (n : Nat) (ρ : EnvD) (S : Store) : H_law_same_b6_0 n ρ S = seqE (((truR ((consR ((getE ρ 0 S).bind fun d94 S95 => (getE ρ 2 S95).bind fun d96 S97 => ixD d94 d96 S97) fun S93 => consR ((getE ρ 1 S93).bind fun d99 S100 => (getE ρ 2 S100).bind fun d101 S102 => ixD d99 d101 S102) fun S98 => Res.ok [] S98).bind (d__law_same.semH (pg.tab (n + 1))))).bind fun b91 S92 => Res.ok (!b91) S92).bind fun b89 S90 => if b89 then H_law_same_b7_0 n ρ S90 else Res.ok (Fl.next ρ) S90) (H_law_same_b6_1 n) := by kernel_rfl
theorem H_law_same_b0_5_eq (n : Nat) (ρ : EnvD) (S : Store) : H_law_same_b0_5 n ρ S = seqE ((((consR (getE ρ 1 S) fun S105 => Res.ok [] S105).bind lenD).bind rng1).bind fun p103 S104 => forE (fun x r => some (List.set r 2 (some x))) (H_law_same_b6_0 n) p103.2 p103.1 p103.1 ρ S104) (H_law_same_b0_6 n) := by kernel_rfl
theorem H_law_same_b0_6_eq (n : Nat) (ρ : EnvD) (S : Store) : H_law_same_b0_6 n ρ S = seqE ((Res.ok (D.bl true) S).bind fun d106 S107 => Res.ok (Fl.ret d106) S107) (H_law_same_b0_7 n) := by kernel_rfl
theorem H_law_same_sem (n : Nat) (p0 p1 : D) (S : Store) : d__law_same.semH (pg.tab (n + 2)) [p0, p1] S = outR .cut S (H_law_same_b0_0 n [some p0, some p1, none] S) := by kernel_rfl
theorem _law_asked_text_b0_3_eq (n : Nat) (ρ : EnvD) (S : Store) : _law_asked_text_b0_3 n ρ S = seqE (tryM ((((consR (getE ρ 0 S) fun S34 => consR (getE ρ 1 S34) fun S35 => Res.ok [] S35).nox).bind (d_read_saying.sem (pg.tab (n + 1)))).bind fun d S1 => Res.ok (Fl.next (List.set ρ 5 (some d))) S1) fun C' fs S' => xmR (pg.tab (n + 2)) C' "BadText" fs S' ((Res.nox ((orB ((truR (xisR (pg.tab (n + 2)) C' "TreeError" S')).bind fun b1039 S1040 => Res.ok (!b1039) S1040) fun S1038 => orB (truR (xisR (pg.tab (n + 2)) C' "BadFault" S1038)) fun S1041 => truR (xisR (pg.tab (n + 2)) C' "BadNumber" S1041)).bind fun b1036 S1037 => if b1036 then Res.ok (D.bl false) S1037 else andR ((getE (List.set ρ 6 none) 3 S1037).bind fun d1043 S1044 => (Res.ok D.non S1044).bind fun d1045 S1046 => cmpD .Is d1043 d1045 S1046) fun S1042 => (consR ((consR (xattrR (pg.tab (n + 2)) C' fs "line" S1042) fun S1048 => consR (xattrR (pg.tab (n + 2)) C' fs "word" S1048) fun S1049 => Res.ok [] S1049).bind tupR) fun S1047 => consR ((consR (Res.ok (D.int 0) S1047) fun S1051 => consR (getE (List.set ρ 6 none) 4 S1051) fun S1052 => Res.ok [] S1052).bind tupR) fun S1050 => Res.ok [] S1050).bind (d__law_same.semH (pg.tab (n + 1))))).bind fun d S2 => Res.ok (Fl.ret d) S2)) (_law_asked_text_b0_4 n) := by kernel_rfl
end
end T80

set_option linter.all false
set_option maxRecDepth 100000
set_option maxHeartbeats 4000000
namespace T80
open PySem PySem.Spec PyProof.Rows L2 E
noncomputable section
noncomputable def _law_t0 (n : Nat) : EvS := blockE (topR (d0_law.gm (pg.tab (n + 2)) false) 30) (List.drop 0 (defBody d0_law.st))
noncomputable def _law_t1 (n : Nat) : EvS := blockE (topR (d0_law.gm (pg.tab (n + 2)) false) 30) (List.drop 1 (defBody d0_law.st))
noncomputable def _law_t2 (n : Nat) : EvS := blockE (topR (d0_law.gm (pg.tab (n + 2)) false) 30) (List.drop 2 (defBody d0_law.st))
noncomputable def _law_t3 (n : Nat) : EvS := blockE (topR (d0_law.gm (pg.tab (n + 2)) false) 30) (List.drop 3 (defBody d0_law.st))
noncomputable def _law_t4 (n : Nat) : EvS := blockE (topR (d0_law.gm (pg.tab (n + 2)) false) 30) (List.drop 4 (defBody d0_law.st))
noncomputable def _law_t5 (n : Nat) : EvS := blockE (topR (d0_law.gm (pg.tab (n + 2)) false) 30) (List.drop 5 (defBody d0_law.st))
noncomputable def _law_t6 (n : Nat) : EvS := blockE (topR (d0_law.gm (pg.tab (n + 2)) false) 30) (List.drop 6 (defBody d0_law.st))
noncomputable def _law_t7 (n : Nat) : EvS := fun ρ S => Res.ok (Fl.next ρ) S
theorem _law_t0_eq (n : Nat) (ρ : EnvD) (S : Store) : _law_t0 n ρ S = seqE (((consR (getE ρ 0 S) fun S1 => consR (Res.ok (D.int 0) S1) fun S2 => consR (Res.ok (D.int 60) S2) fun S3 => Res.ok [] S3).bind (d__law_picks.sem (pg.tab (n + 1)))).bind fun d4 S5 => Res.ok (Fl.next (List.set ρ 1 (some d4))) S5) (_law_t1 n) := by kernel_rfl
theorem _law_t1_eq (n : Nat) (ρ : EnvD) (S : Store) : _law_t1 n ρ S = seqE (((consR (getE ρ 1 S) fun S6 => consR ((Res.ok (D.int 1) S6).bind fun d8 S9 => (((consR (getE ρ 0 S9) fun S10 => consR (Res.ok (D.int 2) S10) fun S11 => Res.ok [] S11).bind (d__law_number.sem (pg.tab (n + 1)))).bind fun d12 S13 => (Res.ok (D.int 3) S13).bind fun d14 S15 => binD .Mod d12 d14 S15).bind fun d16 S17 => binD .Add d8 d16 S17) fun S7 => consR (Res.ok (D.int 4) S7) fun S18 => Res.ok [] S18).bind (d__law_stock.sem (pg.tab (n + 1)))).bind fun d19 S20 => Res.ok (Fl.next (List.set ρ 2 (some d19))) S20) (_law_t2 n) := by kernel_rfl
theorem _law_t2_eq (n : Nat) (ρ : EnvD) (S : Store) : _law_t2 n ρ S = seqE (((consR (getE ρ 0 S) fun S21 => consR (Res.ok (D.int 1) S21) fun S22 => consR (Res.ok (D.int 400) S22) fun S23 => Res.ok [] S23).bind (d__law_picks.sem (pg.tab (n + 1)))).bind fun d24 S25 => Res.ok (Fl.next (List.set ρ 1 (some d24))) S25) (_law_t3 n) := by kernel_rfl
theorem _law_t3_eq (n : Nat) (ρ : EnvD) (S : Store) : _law_t3 n ρ S = seqE (((consR (Res.ok (D.str "") S) fun S26 => consR (Res.ok (D.str "and") S26) fun S27 => consR (Res.ok (D.str "or") S27) fun S28 => consR (Res.ok (D.str "not") S28) fun S29 => consR (Res.ok (D.str "is") S29) fun S30 => consR (Res.ok (D.str "at") S30) fun S31 => consR (Res.ok (D.str "some") S31) fun S32 => consR (Res.ok (D.str "all") S32) fun S33 => consR (Res.ok (D.str "(") S33) fun S34 => consR (Res.ok (D.str ")") S34) fun S35 => consR (Res.ok (D.str "1") S35) fun S36 => consR (Res.ok (D.str "2") S36) fun S37 => consR (Res.ok (D.str "3") S37) fun S38 => consR (Res.ok (D.str "e0") S38) fun S39 => consR (Res.ok (D.str "m0") S39) fun S40 => consR (Res.ok (D.str "zz") S40) fun S41 => consR (Res.ok (D.str "A") S41) fun S42 => consR (Res.ok (D.str ".") S42) fun S43 => consR (Res.ok (D.str "(is") S43) fun S44 => consR (Res.ok (D.str "e0)") S44) fun S45 => Res.ok [] S45).bind tupR).bind fun d46 S47 => Res.ok (Fl.next (List.set ρ 3 (some d46))) S47) (_law_t4 n) := by kernel_rfl
noncomputable def _law_r4_0 (n : Nat) : EvS := blockE (stR (d0_law.gm (pg.tab (n + 2)) false) 30) (List.drop 0 (forB (at_ (defBody d0_law.st) 4)))
noncomputable def _law_r4_1 (n : Nat) : EvS := blockE (stR (d0_law.gm (pg.tab (n + 2)) false) 30) (List.drop 1 (forB (at_ (defBody d0_law.st) 4)))
noncomputable def _law_r4_2 (n : Nat) : EvS := blockE (stR (d0_law.gm (pg.tab (n + 2)) false) 30) (List.drop 2 (forB (at_ (defBody d0_law.st) 4)))
noncomputable def _law_r4_3 (n : Nat) : EvS := blockE (stR (d0_law.gm (pg.tab (n + 2)) false) 30) (List.drop 3 (forB (at_ (defBody d0_law.st) 4)))
noncomputable def _law_r4_4 (n : Nat) : EvS := blockE (stR (d0_law.gm (pg.tab (n + 2)) false) 30) (List.drop 4 (forB (at_ (defBody d0_law.st) 4)))
noncomputable def _law_r4_5 (n : Nat) : EvS := blockE (stR (d0_law.gm (pg.tab (n + 2)) false) 30) (List.drop 5 (forB (at_ (defBody d0_law.st) 4)))
noncomputable def _law_r4_6 (n : Nat) : EvS := fun ρ S => Res.ok (Fl.next ρ) S
theorem _law_r4_0_eq (n : Nat) (ρ : EnvD) (S : Store) : _law_r4_0 n ρ S = seqE (((consR (getE ρ 1 S) fun S48 => consR (getE ρ 2 S48) fun S49 => consR (Res.ok (D.int 4) S49) fun S50 => Res.ok [] S50).bind (d__law_saying.sem (pg.tab (n + 1)))).bind fun d51 S52 => Res.ok (Fl.next (List.set ρ 5 (some d51))) S52) (_law_r4_1 n) := by kernel_rfl
theorem _law_r4_1_eq (n : Nat) (ρ : EnvD) (S : Store) : _law_r4_1 n ρ S = seqE (((consR (getE ρ 5 S) fun S53 => consR (Res.ok (D.int 0) S53) fun S54 => Res.ok [] S54).bind (d__law_saying_text.sem (pg.tab (n + 1)))).bind fun d55 S56 => Res.ok (Fl.next (List.set ρ 6 (some d55))) S56) (_law_r4_2 n) := by kernel_rfl
noncomputable def _law_b0_0 (n : Nat) : EvS := exB (d0_law.gm (pg.tab (n + 2)) false) 30 (List.drop 0 (ifA (at_ (forB (at_ (defBody d0_law.st) 4)) 2)))
noncomputable def _law_b0_1 (n : Nat) : EvS := fun ρ S => Res.ok (Fl.next ρ) S
theorem _law_b0_0_eq (n : Nat) (ρ : EnvD) (S : Store) : _law_b0_0 n ρ S = seqE ((Res.ok (D.bl false) S).bind fun d57 S58 => Res.ok (Fl.ret d57) S58) (_law_b0_1 n) := by kernel_rfl
theorem _law_r4_2_eq (n : Nat) (ρ : EnvD) (S : Store) : _law_r4_2 n ρ S = seqE ((orB ((truR ((consR ((consR (getE ρ 5 S) fun S65 => Res.ok [] S65).bind (d_saying_text.sem (pg.tab (n + 1)))) fun S64 => consR (getE ρ 6 S64) fun S66 => Res.ok [] S66).bind (d__law_same.sem (pg.tab (n + 1))))).bind fun b62 S63 => Res.ok (!b62) S63) fun S61 => (truR ((consR ((consR (getE ρ 2 S61) fun S70 => consR (getE ρ 6 S70) fun S71 => Res.ok [] S71).bind (d_read_saying.sem (pg.tab (n + 1)))) fun S69 => consR (getE ρ 5 S69) fun S72 => Res.ok [] S72).bind (d__law_same.sem (pg.tab (n + 1))))).bind fun b67 S68 => Res.ok (!b67) S68).bind fun b59 S60 => if b59 then _law_b0_0 n ρ S60 else Res.ok (Fl.next ρ) S60) (_law_r4_3 n) := by kernel_rfl
theorem _law_r4_3_eq (n : Nat) (ρ : EnvD) (S : Store) : _law_r4_3 n ρ S = seqE ((consR ((getE ρ 6 S).bind (replD " " "   ")) fun S73 => consR ((Res.ok (D.str " ") S73).bind fun d75 S76 => (((getE ρ 6 S76).bind (replD "(" " ( ")).bind (replD ")" " ) ")).bind fun d77 S78 => binD .Add d75 d77 S78) fun S74 => consR ((getE ρ 6 S74).bind fun d80 S81 => (Res.ok (D.str ")") S81).bind fun d82 S83 => binD .Add d80 d82 S83) fun S79 => consR (((Res.ok (D.str "(") S79).bind fun d85 S86 => (getE ρ 6 S86).bind fun d87 S88 => binD .Add d85 d87 S88).bind fun d89 S90 => (Res.ok (D.str ")") S90).bind fun d91 S92 => binD .Add d89 d91 S92) fun S84 => consR (Res.ok (D.str "") S84) fun S93 => Res.ok [] S93).bind (setL 7 ρ)) (_law_r4_4 n) := by kernel_rfl
noncomputable def _law_b1_0 (n : Nat) : EvS := exB (d0_law.gm (pg.tab (n + 2)) false) 30 (List.drop 0 (forB (at_ (forB (at_ (defBody d0_law.st) 4)) 4)))
noncomputable def _law_b1_1 (n : Nat) : EvS := fun ρ S => Res.ok (Fl.next ρ) S
theorem _law_b1_0_eq (n : Nat) (ρ : EnvD) (S : Store) : _law_b1_0 n ρ S = seqE (((getE ρ 7 S).bind (mK1 (pg.tab (n + 2)) "append" fun S94 => consR ((consR (getE ρ 1 S94) fun S96 => consR (getE ρ 6 S96) fun S97 => consR (getE ρ 3 S97) fun S98 => Res.ok [] S98).bind (d__law_spoilt.sem (pg.tab (n + 1)))) fun S95 => Res.ok [] S95)).bind fun d99 S100 => Res.ok (Fl.next ρ) S100) (_law_b1_1 n) := by kernel_rfl
theorem _law_r4_4_eq (n : Nat) (ρ : EnvD) (S : Store) : _law_r4_4 n ρ S = seqE (((Res.ok (D.int 6) S).bind rng1).bind fun p101 S102 => forE (fun x r => some (List.set r 8 (some x))) (_law_b1_0 n) p101.2 p101.1 p101.1 ρ S102) (_law_r4_5 n) := by kernel_rfl
noncomputable def _law_b2_0 (n : Nat) : EvS := exB (d0_law.gm (pg.tab (n + 2)) false) 30 (List.drop 0 (forB (at_ (forB (at_ (defBody d0_law.st) 4)) 5)))
noncomputable def _law_b2_1 (n : Nat) : EvS := fun ρ S => Res.ok (Fl.next ρ) S
noncomputable def _law_b3_0 (n : Nat) : EvS := exB (d0_law.gm (pg.tab (n + 2)) false) 29 (List.drop 0 (ifA (at_ (forB (at_ (forB (at_ (defBody d0_law.st) 4)) 5)) 0)))
noncomputable def _law_b3_1 (n : Nat) : EvS := fun ρ S => Res.ok (Fl.next ρ) S
theorem _law_b3_0_eq (n : Nat) (ρ : EnvD) (S : Store) : _law_b3_0 n ρ S = seqE ((Res.ok (D.bl false) S).bind fun d103 S104 => Res.ok (Fl.ret d103) S104) (_law_b3_1 n) := by kernel_rfl
theorem _law_b2_0_eq (n : Nat) (ρ : EnvD) (S : Store) : _law_b2_0 n ρ S = seqE (((truR ((consR (getE ρ 2 S) fun S109 => consR (getE ρ 9 S109) fun S110 => Res.ok [] S110).bind (d__law_asked_text.sem (pg.tab (n + 1))))).bind fun b107 S108 => Res.ok (!b107) S108).bind fun b105 S106 => if b105 then _law_b3_0 n ρ S106 else Res.ok (Fl.next ρ) S106) (_law_b2_1 n) := by kernel_rfl
theorem _law_r4_5_eq (n : Nat) (ρ : EnvD) (S : Store) : _law_r4_5 n ρ S = seqE (((getE ρ 7 S).bind iterD).bind fun p111 S112 => forE (fun x r => some (List.set r 9 (some x))) (_law_b2_0 n) p111.2 p111.1 p111.1 ρ S112) (_law_r4_6 n) := by kernel_rfl
theorem _law_t4_eq (n : Nat) (ρ : EnvD) (S : Store) : _law_t4 n ρ S = seqE (((Res.ok (D.int 3) S).bind rng1).bind fun p113 S114 => forE (fun x r => some (List.set r 4 (some x))) (_law_r4_0 n) p113.2 p113.1 p113.1 ρ S114) (_law_t5 n) := by kernel_rfl
noncomputable def _law_r5_0 (n : Nat) : EvS := blockE (stR (d0_law.gm (pg.tab (n + 2)) false) 30) (List.drop 0 (forB (at_ (defBody d0_law.st) 5)))
noncomputable def _law_r5_1 (n : Nat) : EvS := fun ρ S => Res.ok (Fl.next ρ) S
noncomputable def _law_b4_0 (n : Nat) : EvS := exB (d0_law.gm (pg.tab (n + 2)) false) 30 (List.drop 0 (ifA (at_ (forB (at_ (defBody d0_law.st) 5)) 0)))
noncomputable def _law_b4_1 (n : Nat) : EvS := fun ρ S => Res.ok (Fl.next ρ) S
theorem _law_b4_0_eq (n : Nat) (ρ : EnvD) (S : Store) : _law_b4_0 n ρ S = seqE ((Res.ok (D.bl false) S).bind fun d115 S116 => Res.ok (Fl.ret d115) S116) (_law_b4_1 n) := by kernel_rfl
theorem _law_r5_0_eq (n : Nat) (ρ : EnvD) (S : Store) : _law_r5_0 n ρ S = seqE (((truR ((consR (getE ρ 2 S) fun S121 => consR ((consR (getE ρ 1 S121) fun S123 => consR (getE ρ 2 S123) fun S124 => consR (getE ρ 10 S124) fun S125 => Res.ok [] S125).bind (d__law_held.sem (pg.tab (n + 1)))) fun S122 => Res.ok [] S122).bind (d__law_asked_text.sem (pg.tab (n + 1))))).bind fun b119 S120 => Res.ok (!b119) S120).bind fun b117 S118 => if b117 then _law_b4_0 n ρ S118 else Res.ok (Fl.next ρ) S118) (_law_r5_1 n) := by kernel_rfl
theorem _law_t5_eq (n : Nat) (ρ : EnvD) (S : Store) : _law_t5 n ρ S = seqE ((((consR (Res.ok (D.int 39) S) fun S128 => consR (Res.ok (D.int 40) S128) fun S129 => Res.ok [] S129).bind tupR).bind iterD).bind fun p126 S127 => forE (fun x r => some (List.set r 10 (some x))) (_law_r5_0 n) p126.2 p126.1 p126.1 ρ S127) (_law_t6 n) := by kernel_rfl
theorem _law_t6_eq (n : Nat) (ρ : EnvD) (S : Store) : _law_t6 n ρ S = seqE ((Res.ok (D.bl true) S).bind fun d130 S131 => Res.ok (Fl.ret d130) S131) (_law_t7 n) := by kernel_rfl
theorem law_semR (n : Nat) (p0 : D) (S : Store) : d_law.sem (pg.tab (n + 2)) [p0] S = outR .cut S (_law_t0 n [some p0, none, none, none, none, none, none, none, none, none, none] S) := by kernel_rfl
end
end T80

set_option linter.all false
set_option maxRecDepth 100000
set_option maxHeartbeats 4000000
namespace T80
open PySem (Str)
open E
/-- a list of numbers as data -/
abbrev iD (l : List Int) : List D := l.map D.int
/-- what is picked: the last one, or 0 -/
def pk (l : List Int) : Int := l.getLast?.getD 0
theorem clDs_ints (b : Nat) (l : List Int) : clDs b (iD l) = true := by
  induction l with
  | nil => rfl
  | cons a l ih => simp [clDs, clD, ih]
theorem m_pick (n : Nat) (S : Store) (m : Nat) (l : List Int) (h : cellL S m = some (iD l)) : d__law_pick.sem (pg.tab (n + 2)) [.ref m] S = .ok (.int (pk l)) (S.set m (some (.lst (iD l.dropLast)))) := by
  rw [_law_pick_sem, _law_pick_b0_0_eq]
  simp only [get_at, consR, bind_ok, len_c h, eq_int, asB_bl]
  by_cases hl : l = []
  · subst hl
    have e : ((((iD []).length : Nat) : Int) = 0) := rfl
    simp only [e, decide_true, if_true, _law_pick_b1_0_eq, bind_ok, seq_ret]
    rw [show S.set m (some (.lst (iD ([] : List Int).dropLast))) = S from set_id h]
    exact cut_same rfl
  · have e : decide ((((iD l).length : Nat) : Int) = 0) = false := by
      refine decide_eq_false fun z => hl ?_
      have : (iD l).length = 0 := by omega
      simpa using this
    rw [e]
    simp only [Bool.false_eq_true, if_false, seq_next, _law_pick_b0_1_eq, get_at, bind_ok, mk0_c _ _ _ h]
    have hp : bm0F "pop" = some .pop := by rfl
    rw [hp]
    obtain ⟨l', x, rfl⟩ : ∃ l' x, l = l' ++ [x] := ⟨l.dropLast, l.getLast hl, (List.dropLast_concat_getLast hl).symm⟩
    have hg : (iD (l' ++ [x]))[(iD (l' ++ [x])).length - 1]? = some (.int x) := by simp [iD]
    show outR .cut S (seqE ((popM (.ref m) [] S).bind fun d S1 => Res.ok (Fl.ret d) S1) (_law_pick_b0_2 n)) = _
    rw [pop_c h, hg]
    simp only [bind_ok, seq_ret]
    have hd : (iD (l' ++ [x])).dropLast = iD l' := by simp [iD]
    have hk : pk (l' ++ [x]) = x := by simp [pk]
    rw [hd, hk, List.dropLast_concat]
    have := cut_set (S := S) (G := []) (n := m) (c := .lst (iD l')) (d := .int x) (clDs_ints _ _) rfl
    rwa [List.append_nil] at this
end T80
namespace T80
open PySem (Str)
open E
theorem sum_ints : ∀ l : List Int, intsD (iD l) = some l
  | [] => rfl
  | a :: l => by
    show (intsD (iD l)).map (a :: ·) = _
    rw [sum_ints l]; rfl
theorem m_number (n : Nat) (S : Store) (ns : List Int) (k : Nat) : ∃ z : Int, 0 ≤ z ∧ d__law_number.sem (pg.tab (n + 2)) [.scr ns, .int k] S = .ok (.int z) S := by
  rw [_law_number_sem, _law_number_b0_0_eq]
  have hs : sumD [.scr ns] S = .ok (.int ns.sum) S := by
    show (match intsD (iD ns) with
      | some ns => Res.ok (D.int ns.sum) S
      | none => .fail) = _
    rw [sum_ints]
  have m1 : L2.CMul ns.sum 31 := .inr (by omega)
  have m2 : L2.CMul 1000003 ((k : Int) + 1) := .inl (by omega)
  have hl : lenD [.scr ns] S = .ok (.int ns.length) S := by
    show Res.ok (D.int (iD ns).length) S = _
    simp
  simp only [get_at, get_up, consR, bind_ok, hs, mul_int _ _ m1, add_int, mul_int _ _ m2, seq_next, List.set_cons_succ, List.set_cons_zero, _law_number_b0_1_eq, hl, lt_int, asB_bl]
  have fin : ∀ z : Int, cutR S (_law_number_b0_2 n [some (.scr ns), some (.int k), some (.int z)] S) = .ok (.int (if z < 0 then -z else z)) S := fun z => by
    rw [_law_number_b0_2_eq]
    simp only [get_at, get_up, consR, bind_ok, absD, seq_ret]
    exact cut_same rfl
  have ab : ∀ z : Int, 0 ≤ (if z < 0 then -z else z) := fun z => by split <;> omega
  by_cases hk : (k : Int) < ns.length
  · have hk' : k < ns.length := by omega
    have hx : ixD (.scr ns) (.int k) S = .ok (.int ns[k]) S := by
      show (match (L2.atI (iD ns) (k : Int)) with
        | some x => Res.ok x S
        | none => .fail) = _
      have : L2.atI (iD ns) (k : Int) = some (.int ns[k]) := by
        rw [at_nat (by simpa using hk')]
        simp [iD]
      rw [this]
    refine ⟨_, ab ns[k], ?_⟩
    simp only [decide_eq_true hk, if_true, _law_number_b1_0_eq, get_at, get_up, bind_ok, hx, seq_next, List.set_cons_succ, List.set_cons_zero]
    exact fin _
  · refine ⟨_, ab (ns.sum * 31 + 1000003 * ((k : Int) + 1)), ?_⟩
    simp only [decide_eq_false hk, Bool.false_eq_true, if_false, seq_next]
    exact fin _
end T80

set_option linter.all false
set_option maxRecDepth 100000
set_option maxHeartbeats 4000000
namespace T80
open PySem (Str)
open E
theorem small_line {k : Nat} (h : k ≤ 16000000) : k ≤ PySem.sizeLine := by rw [PySem.sizeLine_eq]; omega
theorem pow18 (S : Store) : binD .Pow (.int 10) (.int 18) S = .ok (.int 1000000000000000000) S := by
  show (if L2.CPow 10 18 then Res.ok (D.int (10 ^ (18 : Int).toNat)) S else .fail) = _
  rw [if_pos (by unfold L2.CPow; decide)]
  rfl
theorem draws_b2 (n : Nat) (S : Store) (l : List Int) (hl : l.length < 2000) (a b c x : D) (z : Int) : _law_draws_b2_0 n [some a, some b, some c, some (.int 5040), some (.int z), some (.ref S.length), some x, none, none] (S ++ [some (.lst (iD l))]) =
    .ok (.next [some a, some b, some c, some (.int 5040), some (.int (z.fdiv 5040)), some (.ref S.length), some x, none, none]) (S ++ [some (.lst (iD (l ++ [z.fmod 5040])))]) := by
  have hd : L2.CDivN z 5040 := ⟨by decide, by decide⟩
  rw [_law_draws_b2_0_eq]
  simp (config := { implicitDefEqProofs := false }) only [get_at, get_up, bind_ok, List.set_cons_succ, List.set_cons_zero, mk1_app _ _ (cell_end S (iD l)), consR, mod_int z 5040 (by decide), app_c _ (cell_end S (iD l)) (Nat.lt_of_lt_of_le (show (iD l).length < 2000 by simpa using hl) (small_line (by decide))), seq_next, _law_draws_b2_1_eq, div_int _ _ hd, _law_draws_b2_2, set_end]
  simp [iD]
theorem draws_b3 (n : Nat) (S : Store) (l : List Int) (hl : l.length < 2000) (a b c z : D) (w : Option D) (j : Nat) (st : Int) (q1 : 0 ≤ st) (q2 : st ≤ 2147483647) : ∃ st2 an : Int, 0 ≤ st2 ∧ st2 ≤ 2147483647 ∧
    _law_draws_b3_0 n [some a, some b, some c, some (.int 5040), some z, some (.ref S.length), some (.int (0 + (j : Int))), some (.int st), w] (S ++ [some (.lst (iD l))]) =
    .ok (.next [some a, some b, some c, some (.int 5040), some z, some (.ref S.length), some (.int (0 + (j : Int))), some (.int st2), some (.int an)]) (S ++ [some (.lst (iD (l ++ [(an.fdiv 64).fmod 5040])))]) := by
  have c1 : L2.CMul st 48271 := .inr (by omega)
  have c2 : L2.CMul 11 (0 + (j : Int)) := .inl (by omega)
  have c4 : L2.CMul 69621 (0 + (j : Int)) := .inl (by omega)
  generalize hst : (st * 48271 + 11 * (0 + (j : Int)) + 7).fmod 2147483647 = st2
  have r0 : 0 ≤ st2 := by rw [← hst]; exact Int.fmod_nonneg_of_pos _ (by omega)
  have r1 : st2 < 2147483647 := by rw [← hst]; exact Int.fmod_lt_of_pos _ (by omega)
  have c3 : L2.CMul st2 st2 := .inl (by omega)
  generalize han : (st2 * st2 + 69621 * (0 + (j : Int)) + 5).fmod 2147483629 = an
  have hd : L2.CDivN an 64 := ⟨by decide, by decide⟩
  refine ⟨st2, an, r0, by omega, ?_⟩
  rw [_law_draws_b3_0_eq]
  simp (config := { implicitDefEqProofs := false }) only [get_at, get_up, bind_ok, List.set_cons_succ, List.set_cons_zero, mul_int _ _ c1, mul_int _ _ c2, add_int, mod_int _ 2147483647 (by omega), hst, seq_next, _law_draws_b3_1_eq, mul_int _ _ c3, mul_int _ _ c4, mod_int _ 2147483629 (by omega), han, _law_draws_b3_2_eq,
    mk1_app _ _ (cell_end S (iD l)), consR, div_int _ _ hd, mod_int (an.fdiv 64) 5040 (by omega), app_c _ (cell_end S (iD l)) (Nat.lt_of_lt_of_le (show (iD l).length < 2000 by simpa using hl) (small_line (by decide))), _law_draws_b3_3, set_end]
  simp [iD]
theorem m_draws (n : Nat) (S : Store) (ns : List Int) (k count : Nat) (hc : count ≤ 1000) : ∃ l : List Int, l.length ≤ count ∧ d__law_draws.sem (pg.tab (n + 3)) [.scr ns, .int k, .int count, .int 5040] S = .ok (.ref S.length) (S ++ [some (.lst (iD l))]) := by
  obtain ⟨K, pow18⟩ : ∃ K : Int, ∀ S, binD .Pow (.int 10) (.int 18) S = .ok (.int K) S := ⟨_, pow18⟩
  rw [_law_draws_sem, _law_draws_b0_0_eq]
  obtain ⟨z, hz, ez⟩ := m_number n S ns k
  simp (config := { implicitDefEqProofs := false }) only [get_at, get_up, consR, bind_ok, ez, seq_next, List.set_cons_succ, List.set_cons_zero, _law_draws_b0_1_eq, lst_R [] S (Nat.zero_le _), _law_draws_b0_2_eq, pow18, ge_int, asB_bl]
  have fin : ∀ (ρ : EnvD) (S' : Store) (l : List Int), l.length ≤ count → S' = S ++ [some (.lst (iD l))] → ∃ l : List Int, l.length ≤ count ∧ cutR S (.ok (.ret (.ref S.length)) S') = .ok (.ref S.length) (S ++ [some (.lst (iD l))]) := fun ρ S' l h1 h2 => by
    subst h2
    exact ⟨l, h1, cut_list (Nat.le_refl _) (cell_end _ _) (clDs_ints _ _)⟩
  by_cases hb : K ≤ z
  · simp (config := { implicitDefEqProofs := false }) only [decide_eq_true hb, if_true, _law_draws_b1_0_eq, get_at, get_up, bind_ok, pow18, sub_int, seq_next, List.set_cons_succ, List.set_cons_zero, _law_draws_b1_1_eq, rng_1 count _ (by omega)]
    obtain ⟨ρ', S', h1, h2⟩ := for_okN (tg := fun x r => some (List.set r 6 (some x))) (b := _law_draws_b2_0 (n + 1)) (all := rngD 0 count)
      (fun i ρ S' => ∃ (z : Int) (a6 : Option D) (l : List Int), l.length ≤ i ∧ ρ = [some (.scr ns), some (.int k), some (.int count), some (.int 5040), some (.int z), some (.ref S.length), a6, none, none] ∧ S' = S ++ [some (.lst (iD l))])
      (rngD 0 count) 0 _ _ (fun x hx i ρ S' hi ⟨z, a6, l, h1, h2, h3⟩ => by
        subst h2; subst h3
        rw [rngD_len] at hi
        refine ⟨_, [some (.scr ns), some (.int k), some (.int count), some (.int 5040), some (.int (z.fdiv 5040)), some (.ref S.length), some x, none, none], S ++ [some (.lst (iD (l ++ [z.fmod 5040])))], rfl, ?_, ⟨z.fdiv 5040, some x, l ++ [z.fmod 5040], by simp; omega, rfl, rfl⟩⟩
        exact draws_b2 (n + 1) S l (by omega) _ _ _ _ _) ⟨z - K, none, [], Nat.zero_le _, rfl, rfl⟩
    obtain ⟨z', a6, l, h3, h4, h5⟩ := h2
    rw [show iD ([] : List Int) = [] from rfl] at h1
    rw [h1]
    subst h4
    simp (config := { implicitDefEqProofs := false }) only [seq_next, bind_ok, _law_draws_b1_2_eq, get_at, get_up, seq_ret]
    rw [rngD_len] at h3
    exact fin [] S' l (by omega) h5
  · simp (config := { implicitDefEqProofs := false }) only [decide_eq_false hb, Bool.false_eq_true, if_false, seq_next, _law_draws_b0_3_eq, get_at, get_up, bind_ok, mod_int _ 2147483647 (by omega), add_int, List.set_cons_succ, List.set_cons_zero, _law_draws_b0_4_eq, rng_1 count _ (by omega)]
    have s0 := Int.fmod_nonneg_of_pos z (b := 2147483647) (by omega)
    have s1 := Int.fmod_lt_of_pos z (b := 2147483647) (by omega)
    obtain ⟨ρ', S', h1, h2⟩ := for_okN (tg := fun x r => some (List.set r 6 (some x))) (b := _law_draws_b3_0 (n + 1)) (all := rngD 0 count)
      (fun i ρ S' => ∃ (st : Int) (a6 a8 : Option D) (l : List Int), 0 ≤ st ∧ st ≤ 2147483647 ∧ l.length ≤ i ∧ ρ = [some (.scr ns), some (.int k), some (.int count), some (.int 5040), some (.int z), some (.ref S.length), a6, some (.int st), a8] ∧ S' = S ++ [some (.lst (iD l))])
      (rngD 0 count) 0 _ _ (fun x hx i ρ S' hi ⟨st, a6, a8, l, q1, q2, h1, h2, h3⟩ => by
        subst h2; subst h3
        rw [rngD_len] at hi
        obtain ⟨j, hj, rfl⟩ := rngD_mem hx
        obtain ⟨st2, an, r0, r1, e⟩ := draws_b3 (n + 1) S l (by omega) (.scr ns) (.int k) (.int count) (.int z) a8 j st q1 q2
        exact ⟨_, _, _, rfl, e, ⟨st2, _, _, l ++ [(an.fdiv 64).fmod 5040], r0, r1, by simp; omega, rfl, rfl⟩⟩) ⟨z.fmod 2147483647 + 1, none, none, [], by omega, by omega, Nat.zero_le _, rfl, rfl⟩
    obtain ⟨st, a6, a8, l, _, _, h3, h4, h5⟩ := h2
    rw [show iD ([] : List Int) = [] from rfl] at h1
    rw [h1]
    subst h4
    simp (config := { implicitDefEqProofs := false }) only [seq_next, bind_ok, _law_draws_b0_5_eq, get_at, get_up, seq_ret]
    rw [rngD_len] at h3
    exact fin [] S' l (by omega) h5
theorem m_picks (n : Nat) (S : Store) (ns : List Int) (k count : Nat) (hc : count ≤ 1000) : ∃ l : List Int, d__law_picks.sem (pg.tab (n + 4)) [.scr ns, .int k, .int count] S = .ok (.ref S.length) (S ++ [some (.lst (iD l))]) := by
  rw [_law_picks_sem, _law_picks_b0_0_eq]
  obtain ⟨l, hl, e⟩ := m_draws n S ns k count hc
  simp (config := { implicitDefEqProofs := false }) only [get_at, get_up, consR, bind_ok, e, seq_next, List.set_cons_succ, List.set_cons_zero, _law_picks_b0_1_eq, mk0_rev _ _ (cell_end S (iD l)), rev_c (cell_end S (iD l)), set_end, _law_picks_b0_2_eq, seq_ret]
  refine ⟨l.reverse, ?_⟩
  rw [show (iD l).reverse = iD l.reverse by simp [iD]]
  exact cut_list (Nat.le_refl _) (cell_end _ _) (clDs_ints _ _)
end T80

set_option linter.all false
set_option maxRecDepth 100000
set_option maxHeartbeats 4000000
namespace T80
open PySem (Str)
open E
/-- the store S, its picks at m being l, and more behind it -/
abbrev W (S : Store) (m : Nat) (l : List Int) (G : Store) : Store := S.set m (some (.lst (iD l))) ++ G
theorem W_self {S : Store} {m : Nat} {l : List Int} (h : cellL S m = some (iD l)) : S = W S m l [] := by
  unfold W
  rw [List.append_nil, set_id h]
theorem W_len {S : Store} {m : Nat} {l : List Int} {G : Store} : (W S m l G).length = S.length + G.length := by simp [W]
theorem W_cell {S : Store} {m : Nat} {l : List Int} {G : Store} (hm : m < S.length) : cellL (W S m l G) m = some (iD l) := by
  unfold cellL W
  rw [List.getElem?_append_left (by simpa using hm), List.getElem?_set_self hm]
theorem W_set {S : Store} {m : Nat} {l l' : List Int} {G : Store} (hm : m < S.length) : (W S m l G).set m (some (.lst (iD l'))) = W S m l' G := by
  unfold W
  rw [List.set_append_left _ _ (by simpa using hm), List.set_set]
theorem W_cut {S : Store} {m : Nat} {l : List Int} {G : Store} {d : D} (h : clD 0 d = true) : cutR S (.ok (.ret d) (W S m l G)) = .ok d (S.set m (some (.lst (iD l)))) := cut_set (clDs_ints _ _) h
theorem pick_W (n : Nat) {S : Store} {m : Nat} (l : List Int) (G : Store) (hm : m < S.length) : d__law_pick.sem (pg.tab (n + 2)) [.ref m] (W S m l G) = .ok (.int (pk l)) (W S m l.dropLast G) := by
  rw [m_pick n _ m l (W_cell hm), W_set hm]
/-- sayings -/
inductive Sy where
  | is_ (m : Str) | un (o : Str) (x : Sy) | at_ (k : Int) (x : Sy) | bin (o : Str) (a b : Sy)
def enc : Sy → D
  | .is_ m => .tup [.str "is", .str m]
  | .un o x => .tup [.str o, enc x]
  | .at_ k x => .tup [.str "at", .int k, enc x]
  | .bin o a b => .tup [.str o, enc a, enc b]
theorem cl_enc : ∀ x : Sy, clD 0 (enc x) = true
  | .is_ m => rfl
  | .un o x => by simp [enc, clD, clDs, cl_enc x]
  | .at_ k x => by simp [enc, clD, clDs, cl_enc x]
  | .bin o a b => by simp [enc, clD, clDs, cl_enc a, cl_enc b]
def Sy.depth : Sy → Nat
  | .is_ _ => 0
  | .un _ x => x.depth + 1
  | .at_ _ x => x.depth + 1
  | .bin _ a b => max a.depth b.depth + 1
/-- sayings of the language, about the names N -/
def Sy.good (N : List Str) : Sy → Prop
  | .is_ m => m ∈ N
  | .un o x => (o = "not" ∨ o = "some" ∨ o = "all") ∧ x.good N
  | .at_ k x => (k = 1 ∨ k = 2) ∧ x.good N
  | .bin o a b => (o = "and" ∨ o = "or") ∧ a.good N ∧ b.good N
/-- a stock: names with the rest of each row -/
def mkD (p : Str × List D) : D := .tup (.str p.1 :: p.2)
abbrev stD (st : List (Str × List D)) : D := .tup (st.map mkD)
/-- the first part of it: kind, and whether it ends -/
theorem saying_end (st : List (Str × List D)) (hst : st ≠ []) {m : Nat} (n : Nat) (S : Store) (hm : m < S.length) (l : List Int) (d : D) (kd : D) : ∃ (x : Sy) (l' : List Int), x.good (st.map (·.1)) ∧ x.depth = 0 ∧
    _law_saying_b1_0 (n + 1) [some (.ref m), some (stD st), some d, some kd, none] (W S m l []) = .ok (.ret (enc x)) (W S m l' []) := by
  obtain ⟨k, hk, e1, e2⟩ := at_mod (xs := st.map mkD) (pk l) (by simpa using hst)
  have hk2 : k < st.length := by simpa using hk
  refine ⟨.is_ (st[k]).1, l.dropLast, List.mem_map.mpr ⟨_, List.getElem_mem _, rfl⟩, rfl, ?_⟩
  have hz : ((st.map mkD).length : Int) ≠ 0 := by simpa using hst
  rw [_law_saying_b1_0_eq]
  simp -implicitDefEqProofs only [get_at, get_up, consR, bind_ok, pick_W _ _ _ hm, len_t, mod_int _ _ hz, ix_t, e2, List.getElem_map, mkD, at_0, tup2, seq_ret, enc]
/-- a saying drawn -/
theorem m_saying (st : List (Str × List D)) (hst : st ≠ []) (m : Nat) : ∀ (deep n : Nat) (S : Store) (l : List Int), cellL S m = some (iD l) → ∃ (x : Sy) (l' : List Int), x.good (st.map (·.1)) ∧ x.depth ≤ deep ∧
    d__law_saying.sem (pg.tab (n + deep + 3)) [.ref m, stD st, .int deep] S = .ok (enc x) (S.set m (some (.lst (iD l')))) := by
  intro deep
  induction deep with
  | zero =>
    intro n S l h
    have hm := cell_lt h
    obtain ⟨x, l', h1, h2, h3⟩ := saying_end st hst n S hm l.dropLast (.int (0 : Nat)) (.int ((pk l).fmod 9))
    refine ⟨x, l', h1, by omega, ?_⟩
    rw [_law_saying_sem, _law_saying_b0_0_eq]
    conv => lhs; arg 3; rw [W_self h]
    simp -implicitDefEqProofs only [get_at, get_up, consR, bind_ok, pick_W _ _ _ hm, mod_int _ 9 (by omega), seq_next, List.set_cons_succ, List.set_cons_zero, _law_saying_b0_1_eq, le_int, asB_bl, orB, Int.natCast_zero, Int.le_refl, decide_true, if_true]
    rw [Int.natCast_zero] at h3
    rw [h3]
    exact W_cut (cl_enc x)
  | succ deep ih =>
    intro n S l h
    have hm := cell_lt h
    have rec_ : ∀ l, ∃ (x : Sy) (l' : List Int), x.good (st.map (·.1)) ∧ x.depth ≤ deep ∧ d__law_saying.sem (pg.tab (n + deep + 3)) [.ref m, stD st, .int deep] (W S m l []) = .ok (enc x) (W S m l' []) := fun l => by
      obtain ⟨x, l', h1, h2, h3⟩ := ih n (W S m l []) l (W_cell hm)
      exact ⟨x, l', h1, h2, by rw [h3, W_set hm]⟩
    rw [show n + (deep + 1) + 3 = (n + deep + 2) + 2 by omega, _law_saying_sem, _law_saying_b0_0_eq]
    conv => enter [1, x, 1, l', 2, 2]; lhs; arg 3; rw [W_self h]
    have hd : ¬ (((deep + 1 : Nat) : Int) ≤ 0) := by omega
    have hd1 : ((deep + 1 : Nat) : Int) - 1 = deep := by omega
    have k0 := Int.fmod_nonneg_of_pos (pk l) (b := 9) (by omega)
    have k9 := Int.fmod_lt_of_pos (pk l) (b := 9) (by omega)
    simp -implicitDefEqProofs only [get_at, get_up, consR, bind_ok, pick_W _ _ _ hm, mod_int _ 9 (by omega), seq_next, List.set_cons_succ, List.set_cons_zero, _law_saying_b0_1_eq, le_int, lt_int, asB_bl, orB, decide_eq_false hd, Bool.false_eq_true, if_false]
    generalize hk : (pk l).fmod 9 = kd at k0 k9
    have fin : ∀ (x : Sy) (l' : List Int), x.good (st.map (·.1)) → x.depth ≤ deep + 1 → ∀ r, r = .ok (.ret (enc x)) (W S m l' []) → ∃ (x : Sy) (l' : List Int), x.good (st.map (·.1)) ∧ x.depth ≤ deep + 1 ∧ cutR S r = .ok (enc x) (S.set m (some (.lst (iD l')))) := fun x l' h1 h2 r h3 => by
      subst h3
      exact ⟨x, l', h1, h2, W_cut (cl_enc x)⟩
    by_cases c1 : kd < 2
    · obtain ⟨x, l', h1, h2, h3⟩ := saying_end st hst (n + deep + 1) S hm l.dropLast (.int ((deep + 1 : Nat) : Int)) (.int kd)
      refine fin x l' h1 (by omega) _ ?_
      simp -implicitDefEqProofs only [decide_eq_true c1, if_true, h3, seq_ret]
    simp -implicitDefEqProofs only [decide_eq_false c1, Bool.false_eq_true, if_false, seq_next, _law_saying_b0_2_eq, get_at, get_up, bind_ok, eq_int, asB_bl]
    by_cases c2 : kd = 2
    · obtain ⟨x, l', h1, h2, h3⟩ := rec_ l.dropLast
      refine fin (.un "not" x) l' ⟨.inl rfl, h1⟩ (by simp only [Sy.depth]; omega) _ ?_
      simp -implicitDefEqProofs only [decide_eq_true c2, if_true, _law_saying_b2_0_eq, get_at, get_up, consR, bind_ok, sub_int, hd1, h3, tup2, seq_ret, enc]
    simp -implicitDefEqProofs only [decide_eq_false c2, Bool.false_eq_true, if_false, seq_next, _law_saying_b0_3_eq, get_at, get_up, bind_ok, lt_int, asB_bl]
    by_cases c3 : kd < 5
    · obtain ⟨x, l', h1, h2, h3⟩ := rec_ l.dropLast.dropLast
      have e0 := Int.fmod_nonneg_of_pos (pk l.dropLast) (b := 2) (by omega)
      have e1 := Int.fmod_lt_of_pos (pk l.dropLast) (b := 2) (by omega)
      refine fin (.at_ (1 + (pk l.dropLast).fmod 2) x) l' ⟨by omega, h1⟩ (by simp only [Sy.depth]; omega) _ ?_
      simp -implicitDefEqProofs only [decide_eq_true c3, if_true, _law_saying_b3_0_eq, get_at, get_up, consR, bind_ok, pick_W _ _ _ hm, mod_int _ 2 (by omega), add_int, sub_int, hd1, h3, tup3, seq_ret, enc]
    simp -implicitDefEqProofs only [decide_eq_false c3, Bool.false_eq_true, if_false, seq_next, _law_saying_b0_4_eq, get_at, get_up, bind_ok, lt_int, asB_bl]
    by_cases c4 : kd < 7
    · obtain ⟨x, l', h1, h2, h3⟩ := rec_ l.dropLast
      have hc : kd = 5 ∨ kd = 6 := by omega
      rcases hc with hc | hc
      · subst hc
        refine fin (.un "some" x) l' ⟨.inr (.inl rfl), h1⟩ (by simp only [Sy.depth]; omega) _ ?_
        simp -implicitDefEqProofs only [decide_eq_true c4, if_true, _law_saying_b4_0_eq, get_at, get_up, consR, bind_ok, tup2, sub_int, Int.sub_self, ix_t, at_0, hd1, h3, seq_ret, enc]
      · subst hc
        have e1 : (6 : Int) - 5 = 1 := by omega
        refine fin (.un "all" x) l' ⟨.inr (.inr rfl), h1⟩ (by simp only [Sy.depth]; omega) _ ?_
        simp -implicitDefEqProofs only [decide_eq_true c4, if_true, _law_saying_b4_0_eq, get_at, get_up, consR, bind_ok, tup2, sub_int, e1, ix_t, at_1, hd1, h3, seq_ret, enc]
    · obtain ⟨x, l1, h1, h2, h3⟩ := rec_ l.dropLast
      obtain ⟨y, l2, g1, g2, g3⟩ := rec_ l1
      have hc : kd = 7 ∨ kd = 8 := by omega
      rcases hc with hc | hc
      · subst hc
        refine fin (.bin "and" x y) l2 ⟨.inl rfl, h1, g1⟩ (by simp only [Sy.depth]; omega) _ ?_
        simp -implicitDefEqProofs only [decide_eq_false c4, Bool.false_eq_true, if_false, seq_next, _law_saying_b0_5_eq, _law_saying_b0_6_eq, List.set_cons_succ, List.set_cons_zero, get_at, get_up, consR, bind_ok, tup2, tup3, sub_int, Int.sub_self, ix_t, at_0, hd1, h3, g3, seq_ret, enc]
      · subst hc
        have e1 : (8 : Int) - 7 = 1 := by omega
        refine fin (.bin "or" x y) l2 ⟨.inr rfl, h1, g1⟩ (by simp only [Sy.depth]; omega) _ ?_
        simp -implicitDefEqProofs only [decide_eq_false c4, Bool.false_eq_true, if_false, seq_next, _law_saying_b0_5_eq, _law_saying_b0_6_eq, List.set_cons_succ, List.set_cons_zero, get_at, get_up, consR, bind_ok, tup2, tup3, sub_int, e1, ix_t, at_1, hd1, h3, g3, seq_ret, enc]
end T80

set_option linter.all false
set_option maxRecDepth 100000
set_option maxHeartbeats 4000000
namespace T80
open PySem (Str)
open E
def NM : List Str := ["e0", "e1", "e2", "m0", "m1", "m2", "m3"]
def Mks (ds : List D) : Prop := ∃ ps : List (Str × List D), ds = ps.map mkD ∧ ∀ p ∈ ps, p.1 ∈ NM ∧ clDs 0 p.2 = true
theorem Mks.app {a b : List D} (x : Mks a) (y : Mks b) : Mks (a ++ b) := by
  obtain ⟨p, rfl, h1⟩ := x
  obtain ⟨q, rfl, h2⟩ := y
  exact ⟨p ++ q, by simp, fun z hz => (List.mem_append.mp hz).elim (h1 z) (h2 z)⟩
theorem Mks.one {nm : Str} {r : List D} (h1 : nm ∈ NM) (h2 : clDs 0 r = true) : Mks [.tup (.str nm :: r)] := ⟨[(nm, r)], rfl, fun z hz => by rw [List.mem_singleton] at hz; subst hz; exact ⟨h1, h2⟩⟩
theorem Mks.cl {a : List D} (x : Mks a) : clDs 0 a = true := by
  obtain ⟨p, rfl, h1⟩ := x

  induction p with
  | nil => rfl
  | cons q p ih =>
    show (clD 0 (mkD q) && clDs 0 (p.map mkD)) = true
    rw [ih fun z hz => h1 z (List.mem_cons_of_mem _ hz)]
    have := (h1 q List.mem_cons_self).2
    simp [mkD, clD, clDs, this]
theorem add_lst (a b : Nat) (x y : List D) (S : Store) (h1 : cellL S a = some x) (h2 : cellL S b = some y) (h : x.length + y.length ≤ PySem.sizeLine) : binD .Add (.ref a) (.ref b) S = .ok (.ref S.length) (S ++ [some (.lst (x ++ y))]) := by
  show (match cellL S a, cellL S b with
    | some a, some b => if a.length + b.length ≤ PySem.sizeLine then newL (a ++ b) S else .fail
    | _, _ => .fail) = _
  rw [h1, h2]
  exact if_pos h
theorem tupc (m : Nat) (x : List D) (S : Store) (h : cellL S m = some x) : tupleD [.ref m] S = .ok (.tup x) S := by
  show (match cellL S m with
    | some ds => Res.ok (D.tup ds) S
    | none => .fail) = _
  rw [h]
theorem nm_e {j : Nat} (h : j < 3) (S : Store) : ∃ nm, nm ∈ NM ∧ (strD [.int (0 + (j : Int))] S).bind (fun d S => binD .Add (.str "e") d S) = .ok (.str nm) S := by
  have : j = 0 ∨ j = 1 ∨ j = 2 := by omega
  rcases this with rfl | rfl | rfl
  · exact ⟨"e0", by decide +kernel, by kernel_rfl⟩
  · exact ⟨"e1", by decide +kernel, by kernel_rfl⟩
  · exact ⟨"e2", by decide +kernel, by kernel_rfl⟩
theorem nm_m {j : Nat} (h : j < 4) (S : Store) : ∃ nm, nm ∈ NM ∧ (strD [.int (0 + (j : Int))] S).bind (fun d S => binD .Add (.str "m") d S) = .ok (.str nm) S := by
  have : j = 0 ∨ j = 1 ∨ j = 2 ∨ j = 3 := by omega
  rcases this with rfl | rfl | rfl | rfl
  · exact ⟨"m0", by decide +kernel, by kernel_rfl⟩
  · exact ⟨"m1", by decide +kernel, by kernel_rfl⟩
  · exact ⟨"m2", by decide +kernel, by kernel_rfl⟩
  · exact ⟨"m3", by decide +kernel, by kernel_rfl⟩
theorem cW0 {S : Store} {m : Nat} {l : List Int} {a : List D} {G : Store} : cellL (W S m l (some (.lst a) :: G)) S.length = some a := by
  unfold cellL W
  rw [List.getElem?_append_right (by simp)]
  simp
theorem cW1 {S : Store} {m : Nat} {l : List Int} {g : Option Cell} {a : List D} {G : Store} : cellL (W S m l (g :: some (.lst a) :: G)) (S.length + 1) = some a := by
  unfold cellL W
  rw [List.getElem?_append_right (by simp)]
  simp
theorem sW1 {S : Store} {m : Nat} {l : List Int} {g x y : Option Cell} {G : Store} : (W S m l (g :: x :: G)).set (S.length + 1) y = W S m l (g :: y :: G) := by
  unfold W
  rw [List.set_append_right _ _ (by simp)]
  simp
theorem cWe {S : Store} {m : Nat} {l : List Int} {a : List D} {G : Store} : cellL (W S m l (G ++ [some (.lst a)])) (W S m l G).length = some a := by
  unfold cellL W
  rw [← List.append_assoc, List.getElem?_append_right (by simp)]
  simp
theorem sWe {S : Store} {m : Nat} {l : List Int} {x y : Option Cell} {G : Store} : (W S m l (G ++ [x])).set (W S m l G).length y = W S m l (G ++ [y]) := by
  unfold W
  rw [← List.append_assoc, List.set_append_right _ _ (by simp), ← List.append_assoc]
  simp
theorem wapp {S : Store} {m : Nat} {l : List Int} {G H : Store} : W S m l G ++ H = W S m l (G ++ H) := by
  unfold W
  rw [List.append_assoc]
/-- the turns that make one more row -/
theorem stock_turn (n : Nat) {S : Store} {m : Nat} (hm : m < S.length) (srt : Nat) (nd : List D) (hl : nd.length = srt) (hs : 1 ≤ srt) (hc : clDs 0 nd = true) (l : List Int) (lv ot : List D) (G : Store) (a2 a7 : Option D) (j : Nat) (hj : j < 4) (hot : ot.length < 100) :
    ∃ (l' : List Int) (r : List D) (G' : Store) (pl : D), Mks r ∧ r.length = 1 ∧
    _law_stock_b1_0 (n + 1) [some (.ref m), some (.int srt), a2, some (.tup nd), some (.ref S.length), some (.ref (S.length + 1)), some (.int (0 + (j : Int))), a7, none] (W S m l (some (.lst lv) :: some (.lst ot) :: G)) =
      .ok (.next [some (.ref m), some (.int srt), a2, some (.tup nd), some (.ref S.length), some (.ref (S.length + 1)), some (.int (0 + (j : Int))), some pl, none]) (W S m l' (some (.lst lv) :: some (.lst (ot ++ r)) :: G')) := by
  have hz : (srt : Int) ≠ 0 := by omega
  have hnd : nd ≠ [] := by intro e; subst e; simp at hl; omega
  have ndc : ∀ k (h : k < nd.length), clD 0 nd[k] = true := fun k h => by
    clear hl hnd
    induction nd generalizing k with
    | nil => simp at h
    | cons a nd ih =>
      have hc' : clD 0 a = true ∧ clDs 0 nd = true := by simpa [clDs] using hc
      cases k with
      | zero => exact hc'.1
      | succ k => simpa using ih hc'.2 k (by simpa using h)
  rw [_law_stock_b1_0_eq]
  have p0 := Int.fmod_nonneg_of_pos (pk l) (b := 2) (by omega)
  have p1 := Int.fmod_lt_of_pos (pk l) (b := 2) (by omega)
  obtain ⟨c, hcc⟩ : ∃ c : Nat, 1 + (pk l).fmod 2 = c := ⟨(1 + (pk l).fmod 2).toNat, by omega⟩
  obtain ⟨acc, S', h1, l', h2, h3, h4⟩ := comp_ok (tg := fun x => some (List.set (wipeD [some (.ref m), some (.int srt), a2, some (.tup nd), some (.ref S.length), some (.ref (S.length + 1)), some (.int (0 + (j : Int))), a7, none] [8]) 8 (some x)))
    (el := fun r40 S41 => (getE r40 3 S41).bind fun d51 S52 => (((consR (getE r40 0 S52) fun S53 => Res.ok [] S53).bind (d__law_pick.sem (pg.tab (n + 1 + 1)))).bind fun d54 S55 => (getE r40 1 S55).bind fun d56 S57 => binD .Mod d54 d56 S57).bind fun d58 S59 => ixD d51 d58 S59)
    (all := rngD 0 c) (n := (W S m l.dropLast (some (.lst lv) :: some (.lst ot) :: G)).length)
    (fun i acc S' => ∃ l', S' = W S m l' ((some (.lst lv) :: some (.lst ot) :: G) ++ [some (.lst acc)]) ∧ acc.length ≤ i ∧ clDs 0 acc = true) (rngD 0 c) 0 [] (W S m l.dropLast ((some (.lst lv) :: some (.lst ot) :: G) ++ [some (.lst [])]))
    (fun x hx i acc S' hi ⟨l', e1, e2, e3⟩ => by
      subst e1
      obtain ⟨k, hk, f1, f2⟩ := at_mod (xs := nd) (pk l') hnd
      rw [hl] at f2
      refine ⟨_, nd[k], W S m l'.dropLast ((some (.lst lv) :: some (.lst ot) :: G) ++ [some (.lst acc)]), rfl, ?_, ?_, ?_, l'.dropLast, ?_, ?_, ?_⟩
      · simp -implicitDefEqProofs only [wipeD, List.set_cons_succ, List.set_cons_zero, get_at, get_up, consR, bind_ok, pick_W _ _ _ hm, mod_int _ _ hz, ix_t, f2]
      · rw [W_len (l := l.dropLast), ← W_len (l := l'.dropLast)]; exact cWe
      · rw [rngD_len] at hi
        exact Nat.lt_of_lt_of_le (show acc.length < 10 by omega) (small_line (by decide))
      · rw [W_len (l := l.dropLast), ← W_len (l := l'.dropLast)]; exact sWe
      · simp; omega
      · have : ∀ (a b : List D), clDs 0 a = true → clDs 0 b = true → clDs 0 (a ++ b) = true := fun a b ha hb => by
          induction a with
          | nil => exact hb
          | cons z a ih =>
            have ha' : clD 0 z = true ∧ clDs 0 a = true := by simpa [clDs] using ha
            simp [clDs, ha'.1, ih ha'.2]
        exact this _ _ e3 (by simp [clDs, ndc k hk])) ⟨_, rfl, Nat.zero_le _, rfl⟩
  subst h2
  obtain ⟨k, hk, f1, f2⟩ := at_mod (xs := nd) (pk l') hnd
  rw [hl] at f2
  obtain ⟨nm, hn1, hn2⟩ := nm_m hj (W S m l' ((some (.lst lv) :: some (.lst ot) :: G) ++ [some (.lst acc)]))
  refine ⟨l'.dropLast, [.tup [.str nm, nd[k], .tup acc]], G ++ [some (.lst acc)], .tup acc, Mks.one hn1 (by simp [clDs, clD, ndc k hk, h4]), rfl, ?_⟩
  have hcl : cellL (W S m l' ((some (.lst lv) :: some (.lst ot) :: G) ++ [some (.lst acc)])) (W S m l.dropLast (some (.lst lv) :: some (.lst ot) :: G)).length = some acc := by
    rw [W_len (l := l.dropLast), ← W_len (l := l')]; exact cWe
  have hrng : rng1 (.int (1 + (pk l).fmod 2)) (W S m l.dropLast (some (.lst lv) :: some (.lst ot) :: G)) = .ok (rngD 0 c, .still) (W S m l.dropLast (some (.lst lv) :: some (.lst ot) :: G)) := by
    rw [hcc]; exact rng_1 c _ (by omega)
  have hap := app_c (S := W S m l'.dropLast (some (.lst lv) :: some (.lst ot) :: (G ++ [some (.lst acc)]))) (.tup [.str nm, nd[k], .tup acc]) cW1 (Nat.lt_of_lt_of_le (show ot.length < 100 from hot) (small_line (by decide)))
  rw [sW1] at hap
  rw [show W S m l.dropLast ((some (.lst lv) :: some (.lst ot) :: G) ++ [some (.lst [])]) = W S m l.dropLast (some (.lst lv) :: some (.lst ot) :: G) ++ [some (.lst [])] from wapp.symm] at h1
  simp -implicitDefEqProofs only [consR, bind_ok] at h1
  rw [List.cons_append, List.cons_append] at hn2
  simp -implicitDefEqProofs only [get_at, get_up, consR, bind_ok, pick_W _ _ _ hm, mod_int _ 2 (by omega), add_int, hrng, compR, h1, tupc _ _ _ hcl, seq_next, List.set_cons_succ, List.set_cons_zero, _law_stock_b1_1_eq, mk1_app _ _ cW1]
  simp -implicitDefEqProofs only [List.cons_append, mk1_app _ _ cW1, hn2, List.cons_append, get_at, get_up, consR, bind_ok, pick_W _ _ _ hm, mod_int _ _ hz, ix_t, f2, tup3, hap, _law_stock_b1_2]
  rfl
theorem slice_names (srt : Nat) (h1 : 1 ≤ srt) (h3 : srt ≤ 3) (S : Store) : ∃ nd : List D, nd.length = srt ∧ clDs 0 nd = true ∧ slD (.tup [.str "s", .str "t", .str "u", .str "w"]) none (some (srt : Int)) S = .ok (.tup nd) S := by
  have : srt = 1 ∨ srt = 2 ∨ srt = 3 := by omega
  rcases this with rfl | rfl | rfl
  · exact ⟨[.str "s"], rfl, rfl, rfl⟩
  · exact ⟨[.str "s", .str "t"], rfl, rfl, rfl⟩
  · exact ⟨[.str "s", .str "t", .str "u"], rfl, rfl, rfl⟩
theorem nd_at {nd : List D} (hc : clDs 0 nd = true) : ∀ k (h : k < nd.length), clD 0 nd[k] = true := fun k h => by
  induction nd generalizing k with
  | nil => simp at h
  | cons a nd ih =>
    have hc' : clD 0 a = true ∧ clDs 0 nd = true := by simpa [clDs] using hc
    cases k with
    | zero => exact hc'.1
    | succ k => simpa using ih hc'.2 k (by simpa using h)
theorem m_stock (n : Nat) (S : Store) (m : Nat) (l : List Int) (h : cellL S m = some (iD l)) (srt : Nat) (h1 : 1 ≤ srt) (h3 : srt ≤ 3) : ∃ (st : List (Str × List D)) (l' : List Int), st ≠ [] ∧ st.length ≤ 10 ∧ (∀ p ∈ st, p.1 ∈ NM ∧ clDs 0 p.2 = true) ∧
    d__law_stock.sem (pg.tab (n + 3)) [.ref m, .int srt, .int 4] S = .ok (stD st) (S.set m (some (.lst (iD l')))) := by
  have hm := cell_lt h
  obtain ⟨nd, hl, hc, hsl⟩ := slice_names srt h1 h3 (W S m l [])
  rw [_law_stock_sem, _law_stock_b0_0_eq]
  conv => enter [1, x, 1, l', 2, 2, 2]; lhs; arg 3; rw [W_self h]
  simp -implicitDefEqProofs only [get_at, get_up, consR, bind_ok, tup4, optR, hsl, seq_next, List.set_cons_succ, List.set_cons_zero, _law_stock_b0_1_eq, rng_1 srt _ (by omega), compR]
  -- the leaves
  obtain ⟨lv, S1, e1, e2, e3, e4⟩ := comp_ok (tg := fun x => some (List.set (wipeD [some (.ref m), some (.int srt), some (.int 4), some (.tup nd), none, none, none, none, none] [6]) 6 (some x)))
    (el := fun r17 S18 => (consR ((Res.ok (D.str "e") S18).bind fun d20 S21 => ((consR (getE r17 6 S21) fun S22 => Res.ok [] S22).bind strD).bind fun d23 S24 => binD .Add d20 d23 S24) fun S19 => consR ((getE r17 3 S19).bind fun d26 S27 => (getE r17 6 S27).bind fun d28 S29 => ixD d26 d28 S29) fun S25 => consR ((Res.ok [] S25).bind tupR) fun S30 => Res.ok [] S30).bind tupR)
    (all := rngD 0 srt) (n := (W S m l []).length) (fun i acc S' => Mks acc ∧ acc.length = i ∧ S' = W S m l [some (.lst acc)]) (rngD 0 srt) 0 [] (W S m l [] ++ [some (.lst [])])
    (fun x hx i acc S' hi ⟨f1, f2, f3⟩ => by
      subst f3
      obtain ⟨j, hj, rfl⟩ := rngD_mem hx
      obtain ⟨nm, g1, g2⟩ := nm_e (show j < 3 by omega) (W S m l [some (.lst acc)])
      have hj2 : j < nd.length := by omega
      have hix : L2.atI nd (0 + (j : Int)) = some nd[j] := by rw [Int.zero_add]; exact at_nat hj2
      refine ⟨_, .tup [.str nm, nd[j], .tup []], W S m l [some (.lst acc)], rfl, ?_, cWe (G := []), ?_, f1.app (Mks.one g1 (by simp [clDs, clD, nd_at hc j hj2])), by simp [f2], sWe (G := [])⟩
      · simp -implicitDefEqProofs only [wipeD, List.set_cons_succ, List.set_cons_zero, get_at, get_up, consR, bind_ok, g2, ix_t, hix, tup0, tup3]
      · rw [rngD_len] at hi
        exact Nat.lt_of_lt_of_le (show acc.length < 100 by omega) (small_line (by decide))) ⟨⟨[], rfl, fun p hp => nomatch hp⟩, rfl, wapp⟩
  subst e4
  simp -implicitDefEqProofs only [consR, bind_ok] at e1
  have w0 : (W S m l []).length = S.length := by simp
  have w1 : (W S m l [some (.lst lv)]).length = S.length + 1 := by simp
  have w2 : W S m l [some (.lst lv)] ++ [some (.lst [])] = W S m l [some (.lst lv), some (.lst [])] := wapp
  obtain ⟨c, hcc, hc5⟩ : ∃ c : Nat, (pk l).fmod 5 = c ∧ c < 5 := ⟨((pk l).fmod 5).toNat, by have := Int.fmod_nonneg_of_pos (pk l) (b := 5) (by omega); omega, by have := Int.fmod_lt_of_pos (pk l) (b := 5) (by omega); have := Int.fmod_nonneg_of_pos (pk l) (b := 5) (by omega); omega⟩
  have h5 : (4 : Int) + 1 = 5 := by omega
  have hrng : rng1 (.int ((pk l).fmod 5)) (W S m l.dropLast [some (.lst lv), some (.lst [])]) = .ok (rngD 0 c, .still) (W S m l.dropLast [some (.lst lv), some (.lst [])]) := by
    rw [hcc]; exact rng_1 c _ (by omega)
  -- the others
  obtain ⟨ρz, S2, q1, a6, a7, l2, ot, G, q4, q5, q6, q7⟩ := for_okN (tg := fun x r => some (List.set r 6 (some x))) (b := _law_stock_b1_0 (n + 1)) (all := rngD 0 c)
    (fun i ρ S' => ∃ (a6 a7 : Option D) (l2 : List Int) (ot : List D) (G : Store), Mks ot ∧ ot.length = i ∧ ρ = [some (.ref m), some (.int srt), some (.int 4), some (.tup nd), some (.ref S.length), some (.ref (S.length + 1)), a6, a7, none] ∧ S' = W S m l2 (some (.lst lv) :: some (.lst ot) :: G))
    (rngD 0 c) 0 [some (.ref m), some (.int srt), some (.int 4), some (.tup nd), some (.ref S.length), some (.ref (S.length + 1)), none, none, none] (W S m l.dropLast [some (.lst lv), some (.lst [])])
    (fun x hx i ρ S' hi ⟨a6, a7, l2, ot, G, f1, f2, f3, f4⟩ => by
      subst f3; subst f4
      rw [rngD_len] at hi
      obtain ⟨j, hj, rfl⟩ := rngD_mem hx
      obtain ⟨l', r, G', pl, g1, g2, g3⟩ := stock_turn n hm srt nd hl h1 hc l2 lv ot G (some (.int 4)) a7 j (by omega) (by omega)
      exact ⟨_, _, _, rfl, g3, ⟨_, _, l', ot ++ r, G', f1.app g1, by simp [f2, g2], rfl, rfl⟩⟩) ⟨none, none, l.dropLast, [], [], ⟨[], rfl, fun p hp => nomatch hp⟩, rfl, rfl, rfl⟩
  subst q6; subst q7
  rw [rngD_len] at q5
  have fin : ∀ (z : List D) (G' : Store), Mks z → z ≠ [] → z.length ≤ 10 → ∃ (st : List (Str × List D)) (l' : List Int), st ≠ [] ∧ st.length ≤ 10 ∧ (∀ p ∈ st, p.1 ∈ NM ∧ clDs 0 p.2 = true) ∧ cutR S (.ok (.ret (.tup z)) (W S m l2.dropLast G')) = .ok (stD st) (S.set m (some (.lst (iD l')))) := fun z G' hz hne hlz => by
    have hcl := hz.cl
    obtain ⟨ps, rfl, hps⟩ := hz
    exact ⟨ps, l2.dropLast, by simpa using hne, by simpa using hlz, hps, W_cut hcl⟩
  have lv0 : lv ≠ [] := by
    intro e
    subst e
    rw [rngD_len] at e3
    simp at e3
    omega
  rw [rngD_len] at e3
  have small : lv.length + ot.length ≤ PySem.sizeLine := small_line (by omega)
  have small2 : ot.length + lv.length ≤ PySem.sizeLine := small_line (by omega)
  have b1 := add_lst S.length (S.length + 1) lv ot (W S m l2.dropLast (some (.lst lv) :: some (.lst ot) :: G)) cW0 cW1 small
  have b2 := add_lst (S.length + 1) S.length ot lv (W S m l2.dropLast (some (.lst lv) :: some (.lst ot) :: G)) cW1 cW0 small2
  have b3 : ∀ z : List D, tupleD [.ref (W S m l2.dropLast (some (.lst lv) :: some (.lst ot) :: G)).length] (W S m l2.dropLast (some (.lst lv) :: some (.lst ot) :: G) ++ [some (.lst z)]) = .ok (.tup z) (W S m l2.dropLast ((some (.lst lv) :: some (.lst ot) :: G) ++ [some (.lst z)])) := fun z => by
    rw [wapp]
    exact tupc _ _ _ cWe
  simp -implicitDefEqProofs only [w0] at e1
  simp -implicitDefEqProofs only [w0, e1, bind_ok, seq_next, List.set_cons_succ, List.set_cons_zero, _law_stock_b0_2_eq, lst_R [] _ (Nat.zero_le _), w1, w2, _law_stock_b0_3_eq, get_at, get_up, consR, pick_W _ _ _ hm, add_int, h5, mod_int _ 5 (by omega), hrng, q1, _law_stock_b0_4_eq, mod_int _ 2 (by omega), eq_int, asB_bl]
  by_cases hz : (pk l2).fmod 2 = 0
  · simp -implicitDefEqProofs only [decide_eq_true hz, if_true, _law_stock_b2_0_eq, get_at, get_up, consR, bind_ok, b1, b3, seq_ret]
    exact fin _ _ (e2.app q4) (by simp [lv0]) (by simp; omega)
  · simp -implicitDefEqProofs only [decide_eq_false hz, Bool.false_eq_true, if_false, seq_next, _law_stock_b0_5_eq, get_at, get_up, consR, bind_ok, b2, b3, seq_ret]
    exact fin _ _ (q4.app e2) (by simp [lv0]) (by simp; omega)
end T80

set_option linter.all false
set_option maxRecDepth 100000
set_option maxHeartbeats 4000000
namespace T80
open PySem (Str)
open E
/-! ### signs to words -/
def mk (l : List Nat) : Str := ⟨l.toArray⟩
def al (c : Nat) : Bool := decide (c ∈ ("abcdefghijklmnopqrstuvwxyz" : Str).cps.toList) || decide (c ∈ ("0123456789" : Str).cps.toList)
def flush (p : List Str × List Nat) : List Str := if p.2 = [] then p.1 else p.1 ++ [mk p.2]
def stp (p : List Str × List Nat) (c : Nat) : List Str × List Nat := if al c then (p.1, p.2 ++ [c]) else (flush p ++ (if c = 32 then [] else [mk [c]]), [])
def toks (p : List Str × List Nat) (cs : List Nat) : List Str × List Nat := cs.foldl stp p
def tok (z : Str) : List Str := flush (toks ([], []) z.cps.toList)
abbrev sD (F : List Str) : List D := F.map D.str
theorem mk_app (w : List Nat) (c : Nat) : mk w ++ (⟨#[c]⟩ : Str) = mk (w ++ [c]) := by
  show (⟨w.toArray ++ #[c]⟩ : Str) = ⟨(w ++ [c]).toArray⟩
  simp
theorem mk_len (w : List Nat) : (mk w).length = w.length := by
  show w.toArray.size = _
  simp
theorem mk_ne (w : List Nat) (S : Store) : cmpD .NotEq (.str (mk w)) (.str "") S = .ok (.bl (!decide (w = []))) S := by
  rw [ne_str]
  have : (mk w = ("" : Str)) ↔ w = [] := by
    constructor
    · intro h
      have e : w = ("" : Str).cps.toList := by simpa [mk] using congrArg (fun s : Str => s.cps.toList) h
      exact e.trans (by kernel_rfl)
    · rintro rfl
      rfl
  simp only [this]
theorem one_ne (c : Nat) (S : Store) : cmpD .NotEq (.str ⟨#[c]⟩) (.str " ") S = .ok (.bl (!decide (c = 32))) S := by
  rw [ne_str]
  have : ((⟨#[c]⟩ : Str) = (" " : Str)) ↔ c = 32 := by
    constructor
    · intro h
      have e : [c] = (" " : Str).cps.toList := by simpa using congrArg (fun s : Str => s.cps.toList) h
      have e2 := e.trans (show (" " : Str).cps.toList = [32] by kernel_rfl)
      exact List.cons.inj e2 |>.1
    · rintro rfl
      rfl
  simp only [this]
theorem in_one (c : Nat) (z : Str) (S : Store) : cmpD .In (.str ⟨#[c]⟩) (.str z) S = .ok (.bl (decide (c ∈ z.cps.toList))) S := by
  show (if (#[c] : Array Nat).size = 1 then Res.ok (D.bl (if false then !decide ((#[c] : Array Nat).getD 0 0 ∈ z.cps.toList) else decide ((#[c] : Array Nat).getD 0 0 ∈ z.cps.toList))) S else .fail) = _
  rw [if_pos (show (#[c] : Array Nat).size = 1 from rfl)]
  rfl
theorem gvL : gv "LETTERS" = .str "abcdefghijklmnopqrstuvwxyz" := by kernel_rfl
theorem gvF : gv "FIGURES" = .str "0123456789" := by kernel_rfl
/-- one sign -/
theorem words_turn (n : Nat) (S : Store) (t : Option D) (F : List Str) (w : List Nat) (c : Nat) (h1 : w.length < 1000000) (h2 : F.length < 1000000) :
    words_in_b1_0 n [t, some (.ref S.length), some (.str (mk w)), some (.str ⟨#[c]⟩)] (S ++ [some (.lst (sD F))]) =
      .ok (.next [t, some (.ref S.length), some (.str (mk (stp (F, w) c).2)), some (.str ⟨#[c]⟩)]) (S ++ [some (.lst (sD (stp (F, w) c).1))]) := by
  have ad : binD .Add (.str (mk w)) (.str ⟨#[c]⟩) (S ++ [some (.lst (sD F))]) = .ok (.str (mk (w ++ [c]))) (S ++ [some (.lst (sD F))]) := by
    rw [add_str _ _ (by rw [mk_len]; exact small_line (by show w.length + 1 ≤ _; omega)), mk_app]
  have ap : ∀ (F : List Str) (x : Str), F.length < 2000000 → appendM (.ref S.length) [.str x] (S ++ [some (.lst (sD F))]) = .ok .non (S ++ [some (.lst (sD (F ++ [x])))]) := fun F x h => by
    rw [app_c _ (cell_end S (sD F)) (Nat.lt_of_lt_of_le (show (sD F).length < 3000000 by simp; omega) (small_line (by decide))), set_end]
    simp [sD]
  rw [words_in_b1_0_eq]
  simp -implicitDefEqProofs only [get_at, get_up, bind_ok, gvL, gvF, in_one, asB_bl, orB]
  have e1 : (mk [c] : Str) = ⟨#[c]⟩ := rfl
  have e0 : (mk [] : Str) = "" := rfl
  by_cases hl : c ∈ ("abcdefghijklmnopqrstuvwxyz" : Str).cps.toList
  · have ha : al c = true := by unfold al; rw [decide_eq_true hl]; rfl
    simp -implicitDefEqProofs only [decide_eq_true hl, if_true, words_in_b2_0_eq, get_at, get_up, bind_ok, ad, List.set_cons_succ, List.set_cons_zero, seq_next, words_in_b2_1, words_in_b1_1, stp, ha]
  by_cases hf : c ∈ ("0123456789" : Str).cps.toList
  · have ha : al c = true := by unfold al; rw [decide_eq_true hf]; simp
    simp -implicitDefEqProofs only [decide_eq_false hl, decide_eq_true hf, Bool.false_eq_true, if_false, if_true, words_in_b2_0_eq, get_at, get_up, bind_ok, ad, List.set_cons_succ, List.set_cons_zero, seq_next, words_in_b2_1, words_in_b1_1, stp, ha]
  have ha : al c = false := by unfold al; rw [decide_eq_false hl, decide_eq_false hf]; rfl
  have rest : ∀ F : List Str, F.length < 2000000 → seqE (words_in_b3_1 n [t, some (.ref S.length), some (.str (mk w)), some (.str ⟨#[c]⟩)] (S ++ [some (.lst (sD F))])) (words_in_b1_1 n) =
      .ok (.next [t, some (.ref S.length), some (.str (mk [])), some (.str ⟨#[c]⟩)]) (S ++ [some (.lst (sD (F ++ (if c = 32 then [] else [mk [c]]))))]) := fun F hF => by
    rw [words_in_b3_1_eq]
    simp -implicitDefEqProofs only [bind_ok, List.set_cons_succ, List.set_cons_zero, seq_next, words_in_b3_2_eq, get_at, get_up, one_ne, asB_bl]
    by_cases hc : c = 32
    · subst hc
      simp -implicitDefEqProofs only [decide_true, Bool.not_true, Bool.false_eq_true, if_false, seq_next, words_in_b3_3, words_in_b1_1, if_true, List.append_nil]
      rfl
    · simp -implicitDefEqProofs only [decide_eq_false hc, Bool.not_false, if_true, words_in_b5_0_eq, get_at, get_up, bind_ok, consR, mk1_app _ _ (cell_end S (sD F)), ap F _ hF, seq_next, words_in_b5_1, words_in_b3_3, words_in_b1_1, hc, if_false, e1]
      rfl
  simp -implicitDefEqProofs only [decide_eq_false hl, decide_eq_false hf, Bool.false_eq_true, if_false, words_in_b3_0_eq, get_at, get_up, bind_ok, mk_ne, asB_bl, stp, ha, flush]
  by_cases hw : w = []
  · subst hw
    simp -implicitDefEqProofs only [decide_true, Bool.not_true, Bool.false_eq_true, if_false, seq_next, rest F (by omega), if_true]
  · simp -implicitDefEqProofs only [hw, decide_false, Bool.not_false, if_true, words_in_b4_0_eq, get_at, get_up, bind_ok, consR, mk1_app _ _ (cell_end S (sD F)), ap F _ (by omega), seq_next, words_in_b4_1, rest (F ++ [mk w]) (by simp; omega), hw, if_false]
theorem stp_len (p : List Str × List Nat) (c : Nat) : (stp p c).1.length ≤ p.1.length + 2 ∧ (stp p c).2.length ≤ p.2.length + 1 := by
  obtain ⟨F, w⟩ := p
  unfold stp
  split
  · simp
  · unfold flush
    by_cases h1 : w = [] <;> by_cases h2 : c = 32 <;> simp [h1, h2]
theorem words_loop (n : Nat) (S : Store) (t : Option D) (all : List D) : ∀ (cs : List Nat) (F : List Str) (w : List Nat) (a : Option D), F.length + 2 * cs.length ≤ 900000 → w.length + cs.length ≤ 900000 → ∃ a' : Option D,
    forE (fun x r => some (List.set r 3 (some x))) (words_in_b1_0 n) .still all (cs.map fun c => D.str ⟨#[c]⟩) [t, some (.ref S.length), some (.str (mk w)), a] (S ++ [some (.lst (sD F))]) =
      .ok (.next [t, some (.ref S.length), some (.str (mk (toks (F, w) cs).2)), a']) (S ++ [some (.lst (sD (toks (F, w) cs).1))])
  | [], F, w, a, _, _ => ⟨a, forE_nil ..⟩
  | c :: cs, F, w, a, h1, h2 => by
    obtain ⟨l1, l2⟩ := stp_len (F, w) c
    simp only [List.length_cons] at h1 h2 l1 l2
    obtain ⟨a', e⟩ := words_loop n S t all cs (stp (F, w) c).1 (stp (F, w) c).2 (some (.str ⟨#[c]⟩)) (by omega) (by omega)
    refine ⟨a', ?_⟩
    rw [List.map_cons, forE_cons]
    show (words_in_b1_0 n [t, some (.ref S.length), some (.str (mk w)), some (.str ⟨#[c]⟩)] (S ++ [some (.lst (sD F))])).bind _ = _
    rw [words_turn n S t F w c (by omega) (by omega)]
    exact e
theorem iter_str (z : Str) (S : Store) : iterD (.str z) S = .ok (z.cps.toList.map fun c => D.str ⟨#[c]⟩, .still) S := rfl
theorem clDs_strs (b : Nat) (F : List Str) : clDs b (sD F) = true := by
  induction F with
  | nil => rfl
  | cons a l ih => simp [clDs, clD, ih]
theorem toks_len : ∀ (cs : List Nat) (p : List Str × List Nat), (toks p cs).1.length ≤ p.1.length + 2 * cs.length
  | [], p => by simp [toks]
  | c :: cs, p => by
    have h := toks_len cs (stp p c)
    have h2 := (stp_len p c).1
    show (toks (stp p c) cs).1.length ≤ _
    simp only [List.length_cons]
    omega
/-- the text's words -/
theorem m_words (n : Nat) (S : Store) (z : Str) (hz : z.cps.toList.length ≤ 400000) : d_words_in.sem (pg.tab (n + 2)) [.str z] S = .ok (.ref S.length) (S ++ [some (.lst (sD (tok z)))]) := by
  rw [words_in_sem, words_in_b0_0_eq]
  obtain ⟨a', e⟩ := words_loop n S (some (.str z)) (z.cps.toList.map fun c => D.str ⟨#[c]⟩) z.cps.toList [] [] none (by rw [List.length_nil]; omega) (by rw [List.length_nil]; omega)
  have hl := toks_len z.cps.toList ([], [])
  simp only [List.length_nil] at hl
  have e0 : (mk [] : Str) = "" := rfl
  rw [e0] at e
  have fin : ∀ r, r = .ok (.ret (.ref S.length)) (S ++ [some (.lst (sD (tok z)))]) → cutR S r = .ok (.ref S.length) (S ++ [some (.lst (sD (tok z)))]) := fun r hr => by
    subst hr
    exact cut_list (Nat.le_refl _) (cell_end _ _) (clDs_strs _ _)
  refine fin _ ?_
  unfold tok flush
  generalize toks ([], []) z.cps.toList = p at e hl
  obtain ⟨F, w⟩ := p
  have hF : F.length ≤ 0 + 2 * z.cps.toList.length := hl
  simp -implicitDefEqProofs only [bind_ok, lst_R [] _ (Nat.zero_le _), seq_next, List.set_cons_succ, List.set_cons_zero, words_in_b0_1_eq, words_in_b0_2_eq, get_at, iter_str]
  rw [show (S ++ [some (Cell.lst (sD []))]) = S ++ [some (Cell.lst [])] from rfl] at e
  rw [e]
  simp -implicitDefEqProofs only [seq_next, words_in_b0_3_eq, get_at, get_up, bind_ok, mk_ne, asB_bl]
  by_cases hw : w = []
  · subst hw
    simp -implicitDefEqProofs only [decide_true, Bool.not_true, Bool.false_eq_true, if_false, seq_next, if_true, words_in_b0_4_eq, get_at, get_up, bind_ok, seq_ret]
  · have ap : appendM (.ref S.length) [.str (mk w)] (S ++ [some (.lst (sD F))]) = .ok .non (S ++ [some (.lst (sD (F ++ [mk w])))]) := by
      rw [app_c _ (cell_end S (sD F)) (Nat.lt_of_lt_of_le (show (sD F).length < 3000000 by simp; omega) (small_line (by decide))), set_end]
      simp [sD]
    simp -implicitDefEqProofs only [hw, decide_false, Bool.not_false, if_true, words_in_b6_0_eq, get_at, get_up, bind_ok, consR, mk1_app _ _ (cell_end S (sD F)), ap, seq_next, words_in_b6_1, words_in_b0_4_eq, seq_ret, if_false]
end T80

set_option linter.all false
set_option maxRecDepth 100000
set_option maxHeartbeats 4000000
namespace T80
open PySem (Str)
open E
theorem al_all (c : Nat) : decide (c ∈ ("abcdefghijklmnopqrstuvwxyz0123456789" : Str).cps.toList) = al c := by
  have e : ("abcdefghijklmnopqrstuvwxyz0123456789" : Str).cps.toList = ("abcdefghijklmnopqrstuvwxyz" : Str).cps.toList ++ ("0123456789" : Str).cps.toList := by kernel_rfl
  unfold al
  rw [e]
  simp only [List.mem_append, Bool.decide_or]
theorem al32 : al 32 = false := by kernel_rfl
theorem at_last {α : Type} (F : List α) (x : α) : L2.atI (F ++ [x]) (-1) = some x := by
  unfold L2.atI L2.ixN
  rw [if_neg (by omega), if_pos (by simp; omega)]
  show (F ++ [x])[(-1 + ((F ++ [x]).length : Int)).toNat]? = _
  rw [show (-1 + ((F ++ [x]).length : Int)).toNat = F.length by simp; omega]
  simp
theorem set_last (m : Nat) (F : List D) (x y : D) (ρ : EnvD) (S : Store) (h : cellL S m = some (F ++ [x])) : setR (.ref m) (.int (-1)) y ρ S = .ok (.next ρ) (S.set m (some (.lst (F ++ [y])))) := by
  have : setIxE (.ref m) (.int (-1)) y S = some (S.set m (some (.lst (F ++ [y])))) := by
    show (match cellL S m with
      | some ds => (L2.ixN ds.length (-1)).map fun j => S.set m (some (.lst (ds.set j y)))
      | none => none) = _
    rw [h]
    show (L2.ixN (F ++ [x]).length (-1)).map _ = _
    unfold L2.ixN
    rw [if_neg (by omega), if_pos (by simp; omega)]
    show some (S.set m (some (.lst ((F ++ [x]).set (-1 + ((F ++ [x]).length : Int)).toNat y)))) = _
    rw [show (-1 + ((F ++ [x]).length : Int)).toNat = F.length by simp; omega, List.set_append_right _ _ (Nat.le_refl _), Nat.sub_self]
    rfl
  unfold setR
  rw [this]
theorem neg_1 (S : Store) : negD (.int 1) S = .ok (.int (-1)) S := rfl
theorem tru_bl (b : Bool) (S : Store) : truR (.ok (.bl b) S) = .ok b S := by cases b <;> rfl
/-- one sign -/
theorem signs_turn (n : Nat) (S : Store) (t a : Option D) (F : List Str) (w : List Nat) (c : Nat) (h1 : w.length < 1000000) (h2 : F.length < 1000000) :
    _law_signs_b1_0 n [t, some (.ref S.length), some (.bl (!decide (w = []))), some (.str ⟨#[c]⟩), a] (S ++ [some (.lst (sD (flush (F, w))))]) =
      .ok (.next [t, some (.ref S.length), some (.bl (!decide ((stp (F, w) c).2 = []))), some (.str ⟨#[c]⟩), some (.bl (al c))]) (S ++ [some (.lst (sD (flush (stp (F, w) c))))]) := by
  have ap : ∀ (F : List Str) (x : Str), F.length < 2000000 → appendM (.ref S.length) [.str x] (S ++ [some (.lst (sD F))]) = .ok .non (S ++ [some (.lst (sD (F ++ [x])))]) := fun F x h => by
    rw [app_c _ (cell_end S (sD F)) (Nat.lt_of_lt_of_le (show (sD F).length < 3000000 by simp; omega) (small_line (by decide))), set_end]
    simp [sD]
  have e1 : (⟨#[c]⟩ : Str) = mk [c] := rfl
  have fl : (flush (F, w)).length < 2000000 := by unfold flush; split <;> simp <;> omega
  rw [_law_signs_b1_0_eq]
  simp -implicitDefEqProofs only [get_at, get_up, bind_ok, in_one, al_all, List.set_cons_succ, List.set_cons_zero, seq_next, _law_signs_b1_1_eq, tru_bl, andB]
  cases ha : al c with
  | true =>
    have hc : c ≠ 32 := by rintro rfl; rw [al32] at ha; cases ha
    simp -implicitDefEqProofs only [if_true]
    by_cases hw : w = []
    · subst hw
      simp -implicitDefEqProofs only [decide_true, Bool.not_true, Bool.false_eq_true, if_false, _law_signs_b3_0_eq, get_at, get_up, bind_ok, one_ne, asB_bl, decide_eq_false hc, Bool.not_false, if_true, _law_signs_b4_0_eq, consR, mk1_app _ _ (cell_end S (sD (flush (F, [])))), ap _ _ fl, seq_next, _law_signs_b4_1, _law_signs_b3_1, _law_signs_b1_2_eq,
        List.set_cons_succ, List.set_cons_zero, _law_signs_b1_3, stp, ha, List.nil_append]
      rfl
    · have hf : sD (flush (F, w)) = sD F ++ [.str (mk w)] := by simp [flush, hw, sD]
      have ad : binD .Add (.str (mk w)) (.str ⟨#[c]⟩) (S ++ [some (.lst (sD F ++ [.str (mk w)]))]) = .ok (.str (mk (w ++ [c]))) (S ++ [some (.lst (sD F ++ [.str (mk w)]))]) := by
        rw [add_str _ _ (by rw [mk_len]; exact small_line (by show w.length + 1 ≤ _; omega)), mk_app]
      simp -implicitDefEqProofs only [hf, hw, decide_false, Bool.not_false, if_true, _law_signs_b2_0_eq, get_at, get_up, bind_ok, neg_1, ix_c _ (cell_end S (sD F ++ [.str (mk w)])), at_last, ad, set_last _ _ _ _ _ _ (cell_end S (sD F ++ [.str (mk w)])), set_end, seq_next, _law_signs_b2_1, _law_signs_b1_2_eq,
        List.set_cons_succ, List.set_cons_zero, _law_signs_b1_3, stp, ha]
      have e : sD (flush (F, w ++ [c])) = sD F ++ [.str (mk (w ++ [c]))] := by simp [flush, sD]
      rw [e]
      simp
  | false =>
    simp -implicitDefEqProofs only [Bool.false_eq_true, if_false, _law_signs_b3_0_eq, get_at, get_up, bind_ok, one_ne, asB_bl, stp, ha, decide_true, Bool.not_true]
    by_cases hc : c = 32
    · subst hc
      simp -implicitDefEqProofs only [decide_true, Bool.not_true, Bool.false_eq_true, if_false, seq_next, _law_signs_b3_1, _law_signs_b1_2_eq, get_at, get_up, bind_ok, List.set_cons_succ, List.set_cons_zero, _law_signs_b1_3, if_true, List.append_nil]
      rfl
    · simp -implicitDefEqProofs only [hc, decide_false, Bool.not_false, if_true, if_false, _law_signs_b4_0_eq, get_at, get_up, bind_ok, consR, mk1_app _ _ (cell_end S (sD (flush (F, w)))), ap _ _ fl, seq_next, _law_signs_b4_1, _law_signs_b3_1, _law_signs_b1_2_eq, List.set_cons_succ, List.set_cons_zero, _law_signs_b1_3, e1]
      rfl
theorem signs_loop (n : Nat) (S : Store) (t : Option D) (all : List D) : ∀ (cs : List Nat) (F : List Str) (w : List Nat) (a b : Option D), F.length + 2 * cs.length ≤ 900000 → w.length + cs.length ≤ 900000 → ∃ (ρ' : EnvD), ρ'[1]? = some (some (.ref S.length)) ∧
    forE (fun x r => some (List.set r 3 (some x))) (_law_signs_b1_0 n) .still all (cs.map fun c => D.str ⟨#[c]⟩) [t, some (.ref S.length), some (.bl (!decide (w = []))), a, b] (S ++ [some (.lst (sD (flush (F, w))))]) =
      .ok (.next ρ') (S ++ [some (.lst (sD (flush (toks (F, w) cs))))])
  | [], F, w, a, b, _, _ => ⟨_, rfl, forE_nil ..⟩
  | c :: cs, F, w, a, b, h1, h2 => by
    obtain ⟨l1, l2⟩ := stp_len (F, w) c
    simp only [List.length_cons] at h1 h2 l1 l2
    obtain ⟨ρ', h3, e⟩ := signs_loop n S t all cs (stp (F, w) c).1 (stp (F, w) c).2 (some (.str ⟨#[c]⟩)) (some (.bl (al c))) (by omega) (by omega)
    refine ⟨ρ', h3, ?_⟩
    rw [List.map_cons, forE_cons]
    show (_law_signs_b1_0 n [t, some (.ref S.length), some (.bl (!decide (w = []))), some (.str ⟨#[c]⟩), b] (S ++ [some (.lst (sD (flush (F, w))))])).bind _ = _
    rw [signs_turn n S t b F w c (by omega) (by omega)]
    exact e
theorem get_of {ρ : EnvD} {i : Nat} {d : D} (h : ρ[i]? = some (some d)) (S : Store) : getE ρ i S = .ok d S := by
  unfold getE
  rw [h]
/-- the law's words of the text: the same -/
theorem m_signs (n : Nat) (S : Store) (z : Str) (hz : z.cps.toList.length ≤ 400000) : d__law_signs.sem (pg.tab (n + 2)) [.str z] S = .ok (.ref S.length) (S ++ [some (.lst (sD (tok z)))]) := by
  rw [_law_signs_sem, _law_signs_b0_0_eq]
  obtain ⟨ρ', h3, e⟩ := signs_loop n S (some (.str z)) (z.cps.toList.map fun c => D.str ⟨#[c]⟩) z.cps.toList [] [] none none (by rw [List.length_nil]; omega) (by rw [List.length_nil]; omega)
  rw [show (!decide (([] : List Nat) = [])) = false from rfl, show sD (flush ([], [])) = [] from rfl] at e
  simp -implicitDefEqProofs only [bind_ok, lst_R [] _ (Nat.zero_le _), seq_next, List.set_cons_succ, List.set_cons_zero, _law_signs_b0_1_eq, _law_signs_b0_2_eq, get_at, iter_str, e, _law_signs_b0_3_eq, get_of h3, seq_ret]
  exact cut_list (Nat.le_refl _) (cell_end _ _) (clDs_strs _ _)
end T80

set_option linter.all false
set_option maxRecDepth 100000
set_option maxHeartbeats 4000000
namespace T80
open PySem (Str)
open E
theorem len_app (a b : Str) : (a ++ b).length = a.length + b.length := by
  show (a.cps ++ b.cps).size = a.cps.size + b.cps.size
  simp
/-! ### sayings printed -/
def needP : Sy → Int → Bool
  | .bin o _ _, h => (decide (o = ("or" : Str)) && decide (0 < h)) || (decide (o = ("and" : Str)) && decide (1 < h))
  | _, _ => false
def par (b : Bool) (s : Str) : Str := if b then (("(" : Str) ++ s) ++ (")" : Str) else s
def kS (k : Int) : Str := if k = 1 then "1" else "2"
def txt : Sy → Str
  | .is_ m => ("is " : Str) ++ m
  | .un o x => (o ++ (" " : Str)) ++ par (needP x 2) (txt x)
  | .at_ k x => ((("at " : Str) ++ kS k) ++ (" " : Str)) ++ par (needP x 2) (txt x)
  | .bin o a b => if o = ("or" : Str) then (par (needP a 0) (txt a) ++ (" or " : Str)) ++ par (needP b 1) (txt b) else (par (needP a 1) (txt a) ++ (" and " : Str)) ++ par (needP b 2) (txt b)
theorem par_len (b : Bool) (s : Str) : (par b s).length ≤ s.length + 2 := by
  unfold par
  split
  · rw [len_app, len_app]
    have h1 : ("(" : Str).length = 1 := by kernel_rfl
    have h2 : (")" : Str).length = 1 := by kernel_rfl
    omega
  · omega
def short (N : List Str) : Prop := ∀ m ∈ N, m.length ≤ 2
theorem txt_len {N : List Str} (hN : short N) : ∀ (x : Sy) (d : Nat), x.good N → x.depth ≤ d → (txt x).length + 9 ≤ 14 * 2 ^ d
  | .is_ m, d, hg, _ => by
    have h1 : ("is " : Str).length = 3 := by kernel_rfl
    have := hN m hg
    have h2 : 1 ≤ 2 ^ d := Nat.one_le_two_pow
    show ((("is " : Str) ++ m).length) + 9 ≤ _
    rw [len_app]
    omega
  | .un o x, 0, _, hd => by simp [Sy.depth] at hd
  | .un o x, d + 1, ⟨ho, hg⟩, hd => by
    have ih := txt_len hN x d hg (by simp only [Sy.depth] at hd; omega)
    have hp := par_len (needP x 2) (txt x)
    have h1 : (" " : Str).length = 1 := by kernel_rfl
    have h2 : o.length ≤ 4 := by
      rcases ho with rfl | rfl | rfl
      · exact show ("not" : Str).length ≤ 4 by decide +kernel
      · exact show ("some" : Str).length ≤ 4 by decide +kernel
      · exact show ("all" : Str).length ≤ 4 by decide +kernel
    show (((o ++ (" " : Str)) ++ par (needP x 2) (txt x)).length) + 9 ≤ _
    rw [len_app, len_app, Nat.pow_succ]
    have h3 : 1 ≤ 2 ^ d := Nat.one_le_two_pow
    omega
  | .at_ k x, 0, _, hd => by simp [Sy.depth] at hd
  | .at_ k x, d + 1, ⟨_, hg⟩, hd => by
    have ih := txt_len hN x d hg (by simp only [Sy.depth] at hd; omega)
    have hp := par_len (needP x 2) (txt x)
    have h1 : (" " : Str).length = 1 := by kernel_rfl
    have h2 : ("at " : Str).length = 3 := by kernel_rfl
    have h4 : (kS k).length = 1 := by
      unfold kS
      split
      · exact show ("1" : Str).length = 1 by kernel_rfl
      · exact show ("2" : Str).length = 1 by kernel_rfl
    show (((("at " : Str) ++ kS k) ++ (" " : Str)) ++ par (needP x 2) (txt x)).length + 9 ≤ _
    rw [len_app, len_app, len_app, Nat.pow_succ]
    have h3 : 1 ≤ 2 ^ d := Nat.one_le_two_pow
    omega
  | .bin o a b, 0, _, hd => by simp [Sy.depth] at hd
  | .bin o a b, d + 1, ⟨_, ha, hb⟩, hd => by
    simp only [Sy.depth] at hd
    have i1 := txt_len hN a d ha (by omega)
    have i2 := txt_len hN b d hb (by omega)
    have p0 := par_len (needP a 0) (txt a)
    have p1 := par_len (needP b 1) (txt b)
    have p2 := par_len (needP a 1) (txt a)
    have p3 := par_len (needP b 2) (txt b)
    have h1 : (" or " : Str).length = 4 := by kernel_rfl
    have h2 : (" and " : Str).length = 5 := by kernel_rfl
    unfold txt
    rw [Nat.pow_succ]
    split
    · rw [len_app, len_app]; omega
    · rw [len_app, len_app]; omega
end T80

set_option linter.all false
set_option maxRecDepth 100000
set_option maxHeartbeats 4000000
namespace T80
open PySem (Str)
open E
def tag : Sy → Str
  | .is_ _ => "is"
  | .un o _ => o
  | .at_ _ _ => "at"
  | .bin o _ _ => o
theorem ix_tag (x : Sy) (S : Store) : ixD (enc x) (.int 0) S = .ok (.str (tag x)) S := by
  cases x <;> (unfold enc tag; rw [ix_t, at_0])
theorem ne_or {N : List Str} {x : Sy} (hg : x.good N) (hb : ∀ o a b, x ≠ .bin o a b) : tag x ≠ "or" ∧ tag x ≠ "and" := by
  cases x with
  | is_ m => exact ⟨by show ("is" : Str) ≠ "or"; decide +kernel, by show ("is" : Str) ≠ "and"; decide +kernel⟩
  | at_ k x => exact ⟨by show ("at" : Str) ≠ "or"; decide +kernel, by show ("at" : Str) ≠ "and"; decide +kernel⟩
  | un o x =>
    rcases hg.1 with h | h | h
    · exact ⟨by show o ≠ "or"; rw [h]; decide +kernel, by show o ≠ "and"; rw [h]; decide +kernel⟩
    · exact ⟨by show o ≠ "or"; rw [h]; decide +kernel, by show o ≠ "and"; rw [h]; decide +kernel⟩
    · exact ⟨by show o ≠ "or"; rw [h]; decide +kernel, by show o ≠ "and"; rw [h]; decide +kernel⟩
  | bin o a b => exact absurd rfl (hb o a b)
theorem need_tag {N : List Str} {x : Sy} (hg : x.good N) (h : Int) : needP x h = ((decide (tag x = ("or" : Str)) && decide (0 < h)) || (decide (tag x = ("and" : Str)) && decide (1 < h))) := by
  cases x with
  | bin o a b => rfl
  | is_ m =>
    obtain ⟨h1, h2⟩ := ne_or hg (fun _ _ _ e => nomatch e)
    rw [decide_eq_false h1, decide_eq_false h2]; rfl
  | at_ k x =>
    obtain ⟨h1, h2⟩ := ne_or hg (fun _ _ _ e => nomatch e)
    rw [decide_eq_false h1, decide_eq_false h2]; rfl
  | un o x =>
    obtain ⟨h1, h2⟩ := ne_or hg (fun _ _ _ e => nomatch e)
    rw [decide_eq_false h1, decide_eq_false h2]; rfl
theorem gvA : gv "ALTERNATIVE" = .int 0 := by kernel_rfl
theorem gvT : gv "TOGETHER" = .int 1 := by kernel_rfl
theorem gvH : gv "HELD" = .int 2 := by kernel_rfl
/-- a text is short enough to be added to -/
theorem add_s (a b : Str) (h : a.length + b.length ≤ 10000) (S : Store) : binD .Add (.str a) (.str b) S = .ok (.str (a ++ b)) S := add_str a b (small_line (by omega)) S
theorem held_of (n : Nat) (x : Sy) {N : List Str} (hg : x.good N) (hl : (txt x).length ≤ 1000) (h : Int) (S : Store) (e : d_saying_text.sem (pg.tab (n + 1)) [enc x] S = .ok (.str (txt x)) S) :
    d_held_in.sem (pg.tab (n + 2)) [enc x, .int h] S = .ok (.str (par (needP x h) (txt x))) S := by
  rw [held_in_sem, held_in_b0_0_eq, need_tag hg]
  have l1 : ("(" : Str).length = 1 := by kernel_rfl
  have l2 : (")" : Str).length = 1 := by kernel_rfl
  have a1 := add_s ("(" : Str) (txt x) (by omega) S
  have a2 := add_s (("(" : Str) ++ txt x) (")" : Str) (by rw [len_app]; omega) S
  simp -implicitDefEqProofs only [get_at, get_up, consR, bind_ok, e, seq_next, List.set_cons_succ, List.set_cons_zero, held_in_b0_1_eq, ix_tag, eq_str, asB_bl, orB, andB, gvA, gvT, gt_int]
  have yes : cutR S (seqE (held_in_b1_0 n [some (enc x), some (.int h), some (.str (txt x))] S) (held_in_b0_2 n)) = .ok (.str (par true (txt x))) S := by
    rw [held_in_b1_0_eq]
    simp -implicitDefEqProofs only [get_at, get_up, bind_ok, a1, a2, seq_ret]
    exact cut_same rfl
  have no : cutR S (seqE (.ok (.next [some (enc x), some (.int h), some (.str (txt x))]) S) (held_in_b0_2 n)) = .ok (.str (par false (txt x))) S := by
    simp -implicitDefEqProofs only [seq_next, held_in_b0_2_eq, get_at, get_up, bind_ok, seq_ret]
    exact cut_same rfl
  have fold : ∀ b1 b2 b3 b4 : Bool, cutR S (seqE (((if b1 = true then Res.ok b2 S else Res.ok false S).bind fun b S1 => if b = true then Res.ok true S1 else if b3 = true then Res.ok b4 S1 else Res.ok false S1).bind fun b14 S15 => if b14 = true then held_in_b1_0 n [some (enc x), some (.int h), some (.str (txt x))] S15 else Res.ok (Fl.next [some (enc x), some (.int h), some (.str (txt x))]) S15) (held_in_b0_2 n)) =
      .ok (.str (par ((b1 && b2) || (b3 && b4)) (txt x))) S := by
    intro b1 b2 b3 b4
    cases b1 <;> cases b2 <;> cases b3 <;> cases b4 <;> first | exact yes | exact no
  exact fold _ _ _ _
theorem str_k {k : Int} (h : k = 1 ∨ k = 2) (S : Store) : strD [.int k] S = .ok (.str (kS k)) S := by
  rcases h with rfl | rfl
  · kernel_rfl
  · kernel_rfl
theorem ix1 (a b : D) (l : List D) (S : Store) : ixD (.tup (a :: b :: l)) (.int 1) S = .ok b S := by rw [ix_t, at_1]
theorem ix2 (a b c : D) (l : List D) (S : Store) : ixD (.tup (a :: b :: c :: l)) (.int 2) S = .ok c S := by rw [ix_t, at_2]
theorem lens : ("is " : Str).length = 3 ∧ (" or " : Str).length = 4 ∧ (" and " : Str).length = 5 ∧ ("at " : Str).length = 3 ∧ (" " : Str).length = 1 ∧ ("1" : Str).length = 1 ∧ ("2" : Str).length = 1 ∧ ("not" : Str).length = 3 ∧ ("some" : Str).length = 4 ∧ ("all" : Str).length = 3 := by
  refine ⟨?_, ?_, ?_, ?_, ?_, ?_, ?_, ?_, ?_, ?_⟩ <;> kernel_rfl
theorem kS_len (k : Int) : (kS k).length = 1 := by
  obtain ⟨_, _, _, _, _, h1, h2, _⟩ := lens
  unfold kS
  split <;> assumption
theorem un_len {o : Str} (h : o = "not" ∨ o = "some" ∨ o = "all") : o.length ≤ 4 := by
  obtain ⟨_, _, _, _, _, _, _, h1, h2, h3⟩ := lens
  rcases h with rfl | rfl | rfl <;> omega
theorem un_ne {o : Str} (h : o = "not" ∨ o = "some" ∨ o = "all") : o ≠ ("is" : Str) ∧ o ≠ ("or" : Str) ∧ o ≠ ("and" : Str) ∧ o ≠ ("at" : Str) := by
  rcases h with rfl | rfl | rfl <;> (refine ⟨?_, ?_, ?_, ?_⟩ <;> decide +kernel)
theorem at_ne : ("at" : Str) ≠ ("is" : Str) ∧ ("at" : Str) ≠ ("or" : Str) ∧ ("at" : Str) ≠ ("and" : Str) := by refine ⟨?_, ?_, ?_⟩ <;> decide +kernel
theorem or_ne : ("or" : Str) ≠ ("is" : Str) := by decide +kernel
theorem and_ne : ("and" : Str) ≠ ("is" : Str) ∧ ("and" : Str) ≠ ("or" : Str) := by refine ⟨?_, ?_⟩ <;> decide +kernel
/-- the program's text of a saying -/
theorem m_txt {N : List Str} (hN : short N) : ∀ (d : Nat) (x : Sy), x.good N → x.depth ≤ d → d ≤ 5 → ∀ (n : Nat) (S : Store), d_saying_text.sem (pg.tab (n + 2 * d + 2)) [enc x] S = .ok (.str (txt x)) S := by
  intro d
  induction d with
  | zero =>
    intro x hg hd _ n S
    cases x with
    | is_ m =>
      have hm : m.length ≤ 2 := hN m hg
      have l := lens.1
      rw [saying_text_sem, saying_text_b0_0_eq]
      simp -implicitDefEqProofs only [get_at, bind_ok, ix_tag, tag, eq_str, asB_bl, decide_true, if_true, saying_text_b1_0_eq, enc, ix1, add_s ("is " : Str) m (by omega), seq_ret]
      exact cut_same rfl
    | un o x => simp [Sy.depth] at hd
    | at_ k x => simp [Sy.depth] at hd
    | bin o a b => simp [Sy.depth] at hd
  | succ d ih =>
    intro x hg hd h5 n S
    have B : ∀ y : Sy, y.good N → y.depth ≤ d → (txt y).length ≤ 500 := fun y g1 g2 => by
      have := txt_len hN y d g1 g2
      have h2 : 2 ^ d ≤ 2 ^ 5 := Nat.pow_le_pow_right (by omega) (by omega)
      omega
    have Hd : ∀ (y : Sy), y.good N → y.depth ≤ d → ∀ (h : Int) (S : Store), d_held_in.sem (pg.tab (n + 2 * d + 2 + 1)) [enc y, .int h] S = .ok (.str (par (needP y h) (txt y))) S := fun y g1 g2 h S => by
      have := held_of (n + 2 * d + 1) y g1 (by have := B y g1 g2; omega) h S (ih y g1 g2 (by omega) n S)
      exact this
    have P : ∀ y : Sy, y.good N → y.depth ≤ d → ∀ b, (par b (txt y)).length ≤ 502 := fun y g1 g2 b => by
      have := B y g1 g2
      have := par_len b (txt y)
      omega
    obtain ⟨t1, t2, t3, t4, t5, _⟩ := lens
    rw [show n + 2 * (d + 1) + 2 = (n + 2 * d + 2) + 2 by omega, saying_text_sem, saying_text_b0_0_eq]
    cases x with
    | is_ m =>
      have hm : m.length ≤ 2 := hN m hg
      simp -implicitDefEqProofs only [get_at, bind_ok, ix_tag, tag, eq_str, asB_bl, decide_true, if_true, saying_text_b1_0_eq, enc, ix1, add_s ("is " : Str) m (by omega), seq_ret]
      exact cut_same rfl
    | un o x =>
      obtain ⟨ho, hx⟩ := hg
      have hdx : x.depth ≤ d := by simp only [Sy.depth] at hd; omega
      obtain ⟨n1, n2, n3, n4⟩ := un_ne ho
      have lo := un_len ho
      have p1 := P x hx hdx (needP x 2)
      have a1 := add_s o (" " : Str) (by omega)
      have a2 := add_s (o ++ (" " : Str)) (par (needP x 2) (txt x)) (by rw [len_app]; omega)
      simp -implicitDefEqProofs only [get_at, bind_ok, ix_tag, tag, eq_str, asB_bl, decide_eq_false n1, decide_eq_false n2, decide_eq_false n3, decide_eq_false n4, Bool.false_eq_true, if_false, seq_next, saying_text_b0_1_eq, saying_text_b0_2_eq, saying_text_b0_3_eq, saying_text_b0_4_eq, consR, gvH]
      simp -implicitDefEqProofs only [enc, ix1, bind_ok, a1, Hd x hx hdx, a2, seq_ret]
      exact cut_same rfl
    | at_ k x =>
      obtain ⟨hk, hx⟩ := hg
      have hdx : x.depth ≤ d := by simp only [Sy.depth] at hd; omega
      obtain ⟨n1, n2, n3⟩ := at_ne
      have lk := kS_len k
      have p1 := P x hx hdx (needP x 2)
      have a0 := add_s ("at " : Str) (kS k) (by omega)
      have a1 := add_s (("at " : Str) ++ kS k) (" " : Str) (by rw [len_app]; omega)
      have a2 := add_s ((("at " : Str) ++ kS k) ++ (" " : Str)) (par (needP x 2) (txt x)) (by rw [len_app, len_app]; omega)
      simp -implicitDefEqProofs only [get_at, bind_ok, ix_tag, tag, eq_str, asB_bl, decide_eq_false n1, decide_eq_false n2, decide_eq_false n3, decide_true, if_true, Bool.false_eq_true, if_false, seq_next, saying_text_b0_1_eq, saying_text_b0_2_eq, saying_text_b0_3_eq, saying_text_b4_0_eq, consR, gvH]
      simp -implicitDefEqProofs only [enc, ix1, ix2, bind_ok, str_k hk, a0, a1, Hd x hx hdx, a2, seq_ret]
      exact cut_same rfl
    | bin o a b =>
      obtain ⟨ho, ha, hb⟩ := hg
      have hda : a.depth ≤ d := by simp only [Sy.depth] at hd; omega
      have hdb : b.depth ≤ d := by simp only [Sy.depth] at hd; omega
      rcases ho with rfl | rfl
      · obtain ⟨n1, n2⟩ := and_ne
        have p1 := P a ha hda (needP a 1)
        have p2 := P b hb hdb (needP b 2)
        have a1 := add_s (par (needP a 1) (txt a)) (" and " : Str) (by omega)
        have a2 := add_s (par (needP a 1) (txt a) ++ (" and " : Str)) (par (needP b 2) (txt b)) (by rw [len_app]; omega)
        simp -implicitDefEqProofs only [get_at, bind_ok, ix_tag, tag, eq_str, asB_bl, decide_eq_false n1, decide_eq_false n2, decide_true, if_true, Bool.false_eq_true, if_false, seq_next, saying_text_b0_1_eq, saying_text_b0_2_eq, saying_text_b3_0_eq, consR, gvH, gvT]
        simp -implicitDefEqProofs only [enc, ix1, ix2, bind_ok, Hd a ha hda, Hd b hb hdb, a1, a2, seq_ret, txt, n2, if_false]
        exact cut_same rfl
      · have n1 := or_ne
        have p1 := P a ha hda (needP a 0)
        have p2 := P b hb hdb (needP b 1)
        have a1 := add_s (par (needP a 0) (txt a)) (" or " : Str) (by omega)
        have a2 := add_s (par (needP a 0) (txt a) ++ (" or " : Str)) (par (needP b 1) (txt b)) (by rw [len_app]; omega)
        simp -implicitDefEqProofs only [get_at, bind_ok, ix_tag, tag, eq_str, asB_bl, decide_eq_false n1, decide_true, if_true, Bool.false_eq_true, if_false, seq_next, saying_text_b0_1_eq, saying_text_b2_0_eq, consR, gvA, gvT]
        simp -implicitDefEqProofs only [enc, ix1, ix2, bind_ok, Hd a ha hda, Hd b hb hdb, a1, a2, seq_ret, txt, if_true]
        exact cut_same rfl
end T80

set_option linter.all false
set_option maxRecDepth 100000
set_option maxHeartbeats 4000000
namespace T80
open PySem (Str)
open E
/-- the law's text of a saying: the same -/
theorem m_ltxt {N : List Str} (hN : short N) : ∀ (d : Nat) (x : Sy), x.good N → x.depth ≤ d → d ≤ 5 → ∀ (n : Nat) (h : Int) (S : Store), d__law_saying_text.sem (pg.tab (n + d + 2)) [enc x, .int h] S = .ok (.str (par (needP x h) (txt x))) S := by
  intro d
  induction d with
  | zero =>
    intro x hg hd _ n h S
    cases x with
    | is_ m =>
      have hm : m.length ≤ 2 := hN m hg
      have l := lens.1
      rw [_law_saying_text_sem, _law_saying_text_b0_0_eq]
      simp -implicitDefEqProofs only [get_at, bind_ok, ix_tag, tag, eq_str, asB_bl, decide_true, if_true, _law_saying_text_b1_0_eq, enc, ix1, add_s ("is " : Str) m (by omega), seq_ret]
      exact cut_same rfl
    | un o x => simp [Sy.depth] at hd
    | at_ k x => simp [Sy.depth] at hd
    | bin o a b => simp [Sy.depth] at hd
  | succ d ih =>
    intro x hg hd h5 n h S
    have B : ∀ y : Sy, y.good N → y.depth ≤ d → (txt y).length ≤ 500 := fun y g1 g2 => by
      have := txt_len hN y d g1 g2
      have h2 : 2 ^ d ≤ 2 ^ 5 := Nat.pow_le_pow_right (by omega) (by omega)
      omega
    have Hd : ∀ (y : Sy), y.good N → y.depth ≤ d → ∀ (h : Int) (S : Store), d__law_saying_text.sem (pg.tab (n + d + 1 + 1)) [enc y, .int h] S = .ok (.str (par (needP y h) (txt y))) S := fun y g1 g2 h S => ih y g1 g2 (by omega) n h S
    have P : ∀ y : Sy, y.good N → y.depth ≤ d → ∀ b, (par b (txt y)).length ≤ 502 := fun y g1 g2 b => by
      have := B y g1 g2
      have := par_len b (txt y)
      omega
    have l1 : ("(" : Str).length = 1 := by kernel_rfl
    have l2 : (")" : Str).length = 1 := by kernel_rfl
    obtain ⟨t1, t2, t3, t4, t5, _⟩ := lens
    rw [show n + (d + 1) + 2 = (n + d + 1) + 2 by omega, _law_saying_text_sem, _law_saying_text_b0_0_eq]
    cases x with
    | is_ m =>
      have hm : m.length ≤ 2 := hN m hg
      simp -implicitDefEqProofs only [get_at, bind_ok, ix_tag, tag, eq_str, asB_bl, decide_true, if_true, _law_saying_text_b1_0_eq, enc, ix1, add_s ("is " : Str) m (by omega), seq_ret]
      exact cut_same rfl
    | un o x =>
      obtain ⟨ho, hx⟩ := hg
      have hdx : x.depth ≤ d := by simp only [Sy.depth] at hd; omega
      obtain ⟨n1, n2, n3, n4⟩ := un_ne ho
      have lo := un_len ho
      have p1 := P x hx hdx (needP x 2)
      have a1 := add_s o (" " : Str) (by omega)
      have a2 := add_s (o ++ (" " : Str)) (par (needP x 2) (txt x)) (by rw [len_app]; omega)
      simp -implicitDefEqProofs only [get_at, bind_ok, ix_tag, tag, eq_str, asB_bl, decide_eq_false n1, decide_eq_false n2, decide_eq_false n3, decide_eq_false n4, Bool.false_eq_true, if_false, seq_next, _law_saying_text_b0_1_eq, _law_saying_text_b0_2_eq, _law_saying_text_b0_3_eq, _law_saying_text_b0_4_eq, consR]
      simp -implicitDefEqProofs only [enc, ix1, bind_ok, a1, Hd x hx hdx, a2, seq_ret]
      exact cut_same rfl
    | at_ k x =>
      obtain ⟨hk, hx⟩ := hg
      have hdx : x.depth ≤ d := by simp only [Sy.depth] at hd; omega
      obtain ⟨n1, n2, n3⟩ := at_ne
      have lk := kS_len k
      have p1 := P x hx hdx (needP x 2)
      have a0 := add_s ("at " : Str) (kS k) (by omega)
      have a1 := add_s (("at " : Str) ++ kS k) (" " : Str) (by rw [len_app]; omega)
      have a2 := add_s ((("at " : Str) ++ kS k) ++ (" " : Str)) (par (needP x 2) (txt x)) (by rw [len_app, len_app]; omega)
      simp -implicitDefEqProofs only [get_at, bind_ok, ix_tag, tag, eq_str, asB_bl, decide_eq_false n1, decide_eq_false n2, decide_eq_false n3, decide_true, if_true, Bool.false_eq_true, if_false, seq_next, _law_saying_text_b0_1_eq, _law_saying_text_b0_2_eq, _law_saying_text_b0_3_eq, _law_saying_text_b4_0_eq, consR]
      simp -implicitDefEqProofs only [enc, ix1, ix2, bind_ok, str_k hk, a0, a1, Hd x hx hdx, a2, seq_ret]
      exact cut_same rfl
    | bin o a b =>
      obtain ⟨ho, ha, hb⟩ := hg
      have hda : a.depth ≤ d := by simp only [Sy.depth] at hd; omega
      have hdb : b.depth ≤ d := by simp only [Sy.depth] at hd; omega
      rcases ho with rfl | rfl
      · obtain ⟨n1, n2⟩ := and_ne
        have p1 := P a ha hda (needP a 1)
        have p2 := P b hb hdb (needP b 2)
        have a1 := add_s (par (needP a 1) (txt a)) (" and " : Str) (by omega)
        have a2 := add_s (par (needP a 1) (txt a) ++ (" and " : Str)) (par (needP b 2) (txt b)) (by rw [len_app]; omega)
        have ht : txt (.bin "and" a b) = (par (needP a 1) (txt a) ++ (" and " : Str)) ++ par (needP b 2) (txt b) := by show (if _ then _ else _) = _; rw [if_neg n2]
        have hlen : (txt (.bin "and" a b)).length ≤ 1100 := by rw [ht, len_app, len_app]; omega
        have hnp : needP (.bin "and" a b) h = decide (1 < h) := by
          show ((decide (("and" : Str) = "or") && decide (0 < h)) || (decide (("and" : Str) = "and") && decide (1 < h))) = _
          rw [decide_eq_false n2, decide_eq_true rfl]; simp
        have a3 := add_s ("(" : Str) (txt (.bin "and" a b)) (by omega)
        have a4 := add_s (("(" : Str) ++ txt (.bin "and" a b)) (")" : Str) (by rw [len_app]; omega)
        rw [ht] at a3 a4
        simp -implicitDefEqProofs only [get_at, bind_ok, ix_tag, tag, eq_str, asB_bl, decide_eq_false n1, decide_eq_false n2, decide_true, if_true, Bool.false_eq_true, if_false, seq_next, _law_saying_text_b0_1_eq, _law_saying_text_b0_2_eq, _law_saying_text_b3_0_eq, consR, List.set_cons_succ, List.set_cons_zero, _law_saying_text_b3_1_eq, get_up]
        simp -implicitDefEqProofs only [enc, ix1, ix2, bind_ok, Hd a ha hda, Hd b hb hdb, a1, a2, seq_ret, gt_int, asB_bl, hnp, ht, seq_next, List.set_cons_succ, List.set_cons_zero, _law_saying_text_b3_1_eq, get_at, get_up]
        cases hc : decide (1 < h) with
        | true =>
          simp -implicitDefEqProofs only [if_true, bind_ok, a3, a4, seq_ret]
          exact cut_same rfl
        | false =>
          simp -implicitDefEqProofs only [Bool.false_eq_true, if_false, bind_ok, seq_ret]
          exact cut_same rfl
      · have n1 := or_ne
        have p1 := P a ha hda (needP a 0)
        have p2 := P b hb hdb (needP b 1)
        have a1 := add_s (par (needP a 0) (txt a)) (" or " : Str) (by omega)
        have a2 := add_s (par (needP a 0) (txt a) ++ (" or " : Str)) (par (needP b 1) (txt b)) (by rw [len_app]; omega)
        have ht : txt (.bin "or" a b) = (par (needP a 0) (txt a) ++ (" or " : Str)) ++ par (needP b 1) (txt b) := by show (if _ then _ else _) = _; rw [if_pos rfl]
        have hlen : (txt (.bin "or" a b)).length ≤ 1100 := by rw [ht, len_app, len_app]; omega
        have hnp : needP (.bin "or" a b) h = decide (0 < h) := by
          show ((decide (("or" : Str) = "or") && decide (0 < h)) || (decide (("or" : Str) = "and") && decide (1 < h))) = _
          rw [decide_eq_true rfl, decide_eq_false (Ne.symm and_ne.2)]; simp
        have a3 := add_s ("(" : Str) (txt (.bin "or" a b)) (by omega)
        have a4 := add_s (("(" : Str) ++ txt (.bin "or" a b)) (")" : Str) (by rw [len_app]; omega)
        rw [ht] at a3 a4
        simp -implicitDefEqProofs only [get_at, bind_ok, ix_tag, tag, eq_str, asB_bl, decide_eq_false n1, decide_true, if_true, Bool.false_eq_true, if_false, seq_next, _law_saying_text_b0_1_eq, _law_saying_text_b2_0_eq, consR]
        simp -implicitDefEqProofs only [enc, ix1, ix2, bind_ok, Hd a ha hda, Hd b hb hdb, a1, a2, seq_ret, gt_int, asB_bl, hnp, ht, seq_next, List.set_cons_succ, List.set_cons_zero, _law_saying_text_b2_1_eq, get_at, get_up]
        cases hc : decide (0 < h) with
        | true =>
          simp -implicitDefEqProofs only [if_true, bind_ok, a3, a4, seq_ret]
          exact cut_same rfl
        | false =>
          simp -implicitDefEqProofs only [Bool.false_eq_true, if_false, bind_ok, seq_ret]
          exact cut_same rfl
end T80

set_option linter.all false
set_option maxRecDepth 100000
set_option maxHeartbeats 4000000
namespace T80
open PySem (Str)
open E
theorem ty_i (i : Int) (S : Store) : isiD "bool" [.int i] S = .ok (.bl false) S ∧ isiD "int" [.int i] S = .ok (.bl true) S := ⟨by kernel_rfl, by kernel_rfl⟩
theorem ty_s (i : Str) (S : Store) : isiD "bool" [.str i] S = .ok (.bl false) S ∧ isiD "int" [.str i] S = .ok (.bl false) S ∧ isiD "str" [.str i] S = .ok (.bl true) S := ⟨by kernel_rfl, by kernel_rfl, by kernel_rfl⟩
theorem ty_t (i : List D) (S : Store) : isiD "bool" [.tup i] S = .ok (.bl false) S ∧ isiD "int" [.tup i] S = .ok (.bl false) S ∧ isiD "str" [.tup i] S = .ok (.bl false) S ∧ isiD "list" [.tup i] S = .ok (.bl false) S ∧ isiD "tuple" [.tup i] S = .ok (.bl true) S :=
  ⟨by kernel_rfl, by kernel_rfl, by kernel_rfl, by kernel_rfl, by kernel_rfl⟩
theorem is_non (d : D) (S : Store) (h : d ≠ .non) : cmpD .Is d .non S = .ok (.bl false) S := by
  cases d <;> first | rfl | exact absurd rfl h
theorem tru_ok (b : Bool) (S : Store) : truD S (.bl b) = some b := rfl
mutual
/-- numbers, texts, tuples of these -/
def plainD : D → Bool
  | .int _ => true
  | .str _ => true
  | .tup l => decide (l.length ≤ 100) && plainDs l
  | _ => false
def plainDs : List D → Bool
  | [] => true
  | d :: l => plainD d && plainDs l
end
mutual
def dpt : D → Nat
  | .tup l => dpts l + 1
  | _ => 0
def dpts : List D → Nat
  | [] => 0
  | d :: l => max (dpt d) (dpts l)
end
theorem plain_at : ∀ {l : List D} {k : Nat} (h : k < l.length), plainDs l = true → plainD l[k] = true ∧ dpt l[k] ≤ dpts l
  | d :: l, 0, _, h => by
    unfold plainDs at h
    exact ⟨(Bool.and_eq_true_iff.mp h).1, by show dpt d ≤ dpts (d :: l); unfold dpts; omega⟩
  | d :: l, k + 1, hk, h => by
    unfold plainDs at h
    obtain ⟨h1, h2⟩ := plain_at (l := l) (k := k) (by simpa using hk) (Bool.and_eq_true_iff.mp h).2
    have hk' : k < l.length := by simpa using hk
    exact ⟨h1, by show dpt (l[k]'hk') ≤ dpts (d :: l); unfold dpts; omega⟩
/-- a thing is the same as itself -/
theorem m_same : ∀ (d : Nat) (a : D), plainD a = true → dpt a ≤ d → ∀ (n : Nat) (S : Store), d__law_same.sem (pg.tab (n + d + 2)) [a, a] S = .ok (.bl true) S := by
  intro d
  induction d with
  | zero =>
    intro a hp hd n S
    rw [_law_same_sem, _law_same_b0_0_eq]
    cases a with
    | int i =>
      obtain ⟨t1, t2⟩ := ty_i i S
      simp -implicitDefEqProofs only [get_at, get_up, bind_ok, t1, t2, truR, tru_ok, orB, Bool.false_eq_true, if_false, seq_next, _law_same_b0_1_eq, is_non (.int i) S (fun e => nomatch e), asB_bl, if_true, _law_same_b2_0_eq, andR, orR, eq_int, decide_true, seq_ret]
      exact cut_same rfl
    | str i =>
      obtain ⟨t1, t2, t3⟩ := ty_s i S
      simp -implicitDefEqProofs only [get_at, get_up, bind_ok, t1, t2, t3, truR, tru_ok, orB, Bool.false_eq_true, if_false, seq_next, _law_same_b0_1_eq, is_non (.str i) S (fun e => nomatch e), asB_bl, if_true, _law_same_b0_2_eq, _law_same_b3_0_eq, andR, eq_str, decide_true, seq_ret]
      exact cut_same rfl
    | tup l => unfold dpt at hd; omega
    | _ => cases hp
  | succ d ih =>
    intro a hp hd n S
    cases a with
    | int i =>
      rw [show n + (d + 1) + 2 = (n + d + 1) + 2 by omega, _law_same_sem, _law_same_b0_0_eq]
      obtain ⟨t1, t2⟩ := ty_i i S
      simp -implicitDefEqProofs only [get_at, get_up, bind_ok, t1, t2, truR, tru_ok, orB, Bool.false_eq_true, if_false, seq_next, _law_same_b0_1_eq, is_non (.int i) S (fun e => nomatch e), asB_bl, if_true, _law_same_b2_0_eq, andR, orR, eq_int, decide_true, seq_ret]
      exact cut_same rfl
    | str i =>
      rw [show n + (d + 1) + 2 = (n + d + 1) + 2 by omega, _law_same_sem, _law_same_b0_0_eq]
      obtain ⟨t1, t2, t3⟩ := ty_s i S
      simp -implicitDefEqProofs only [get_at, get_up, bind_ok, t1, t2, t3, truR, tru_ok, orB, Bool.false_eq_true, if_false, seq_next, _law_same_b0_1_eq, is_non (.str i) S (fun e => nomatch e), asB_bl, if_true, _law_same_b0_2_eq, _law_same_b3_0_eq, andR, eq_str, decide_true, seq_ret]
      exact cut_same rfl
    | tup l =>
      have hp' : (decide (l.length ≤ 100) && plainDs l) = true := hp
      obtain ⟨hs, hpl⟩ := Bool.and_eq_true_iff.mp hp'
      have hs := of_decide_eq_true hs
      have hdl : dpts l ≤ d := by unfold dpt at hd; omega
      rw [show n + (d + 1) + 2 = (n + d + 1) + 2 by omega, _law_same_sem, _law_same_b0_0_eq]
      obtain ⟨t1, t2, t3, t4, t5⟩ := ty_t l S
      have hne : ∀ b : Bool, cmpD .NotEq (.bl b) (.bl b) S = .ok (.bl false) S := fun b => by cases b <;> rfl
      obtain ⟨ρ', S', e, hρ, hS⟩ := for_ok (tg := fun x r => some (List.set r 2 (some x))) (b := _law_same_b6_0 (n + d + 1)) (all := rngD 0 l.length) (fun ρ S' => (∃ a, ρ = [some (.tup l), some (.tup l), a]) ∧ S' = S) (rngD 0 l.length) [some (.tup l), some (.tup l), none] S
        (fun x hx ρ S' ⟨⟨a, e1⟩, e2⟩ => by
          subst e1; subst e2
          obtain ⟨j, hj, rfl⟩ := rngD_mem hx
          obtain ⟨g1, g2⟩ := plain_at hj hpl
          have hix : L2.atI l (0 + (j : Int)) = some l[j] := by rw [Int.zero_add]; exact at_nat hj
          refine ⟨_, [some (.tup l), some (.tup l), some (.int (0 + (j : Int)))], S', rfl, ?_, ⟨_, rfl⟩, rfl⟩
          rw [_law_same_b6_0_eq]
          have hi := ih l[j] g1 (by omega) n S'
          simp -implicitDefEqProofs only [get_at, get_up, bind_ok, consR, ix_t, hix, List.set_cons_succ, List.set_cons_zero, hi, truR, tru_ok, Bool.not_true, Bool.false_eq_true, if_false, seq_next, _law_same_b6_1]) ⟨⟨_, rfl⟩, rfl⟩
      subst hS
      simp -implicitDefEqProofs only [get_at, get_up, bind_ok, t1, t2, t3, t4, t5, truR, tru_ok, orB, Bool.false_eq_true, if_false, seq_next, _law_same_b0_1_eq, is_non (.tup l) S' (fun e => nomatch e), asB_bl, _law_same_b0_2_eq, _law_same_b0_3_eq, hne, _law_same_b0_4_eq, consR, len_t, ne_int, decide_true, Bool.not_true,
        _law_same_b0_5_eq, rng_1 l.length _ (by omega), e, _law_same_b0_6_eq, seq_ret]
      exact cut_same rfl
    | _ => cases hp
end T80

set_option linter.all false
set_option maxRecDepth 100000
set_option maxHeartbeats 4000000
namespace T80
open PySem (Str)
open E
theorem gvM : gv "MOST_SIGNS" = .int 6 := by kernel_rfl
noncomputable def inC (w : Str) : Bool := match cmpD .In (.str w) (gv "CLOSED") [] with
  | .ok (.bl b) _ => b
  | _ => true
def hd0 (w : Str) : Nat := w.cps.toList.headD 0
def alph (c : Nat) : Bool := decide (c ∈ ("abcdefghijklmnopqrstuvwxyz" : Str).cps.toList)
noncomputable def isN (w : Str) : Bool := !(decide (w = "") || (decide (6 < w.cps.toList.length) || inC w)) && (alph (hd0 w) && w.cps.toList.all al)
theorem nm_isN {w : Str} (h : w ∈ NM) : isN w = true := by
  have : NM.all isN = true := by kernel_rfl
  exact List.all_eq_true.mp this w h
theorem ne_empty {w : Str} (h : w ≠ "") : ∃ c r, w.cps.toList = c :: r := by
  cases e : w.cps.toList with
  | nil =>
    refine absurd ?_ h
    have : w = ⟨(w.cps.toList).toArray⟩ := by cases w; simp
    rw [this, e]
    rfl
  | cons c r => exact ⟨c, r, rfl⟩
theorem nin_one (c : Nat) (z : Str) (S : Store) : cmpD .NotIn (.str ⟨#[c]⟩) (.str z) S = .ok (.bl (!decide (c ∈ z.cps.toList))) S := by
  show (if (#[c] : Array Nat).size = 1 then Res.ok (D.bl (if true then !decide ((#[c] : Array Nat).getD 0 0 ∈ z.cps.toList) else decide ((#[c] : Array Nat).getD 0 0 ∈ z.cps.toList))) S else .fail) = _
  rw [if_pos (show (#[c] : Array Nat).size = 1 from rfl)]
  rfl
def cl : List Str := ["worths", "sort", "up", "down", "maker", "makes", "of", "least", "most", "same", "pick", "hole", "never", "can"]
theorem in_C (w : Str) (S : Store) : cmpD .In (.str w) (gv "CLOSED") S = .ok (.bl (inC w)) S := by
  have e : gv "CLOSED" = .tup (cl.map D.str) := by kernel_rfl
  unfold inC
  rw [e]
  rfl
theorem name_loop (n : Nat) (S : Store) (w : Str) (all : List D) : ∀ (cs : List Nat) (a : Option D), ∃ a' : Option D,
    forE (fun x r => some (List.set r 1 (some x))) (is_name_b3_0 n) .still all (cs.map fun c => D.str ⟨#[c]⟩) [some (.str w), a] S =
      .ok (if cs.all al then .next [some (.str w), a'] else .ret (.bl false)) S
  | [], a => ⟨a, forE_nil ..⟩
  | c :: cs, a => by
    obtain ⟨a', e⟩ := name_loop n S w all cs (some (.str ⟨#[c]⟩))
    refine ⟨a', ?_⟩
    rw [List.map_cons, forE_cons]
    show (is_name_b3_0 n [some (.str w), some (.str ⟨#[c]⟩)] S).bind _ = _
    rw [is_name_b3_0_eq]
    simp -implicitDefEqProofs only [get_at, get_up, bind_ok, gvL, gvF, nin_one, asB_bl, andB]
    have ha : al c = (decide (c ∈ ("abcdefghijklmnopqrstuvwxyz" : Str).cps.toList) || decide (c ∈ ("0123456789" : Str).cps.toList)) := rfl
    rw [List.all_cons, ha]
    cases decide (c ∈ ("abcdefghijklmnopqrstuvwxyz" : Str).cps.toList) <;> cases decide (c ∈ ("0123456789" : Str).cps.toList) <;>
      simp -implicitDefEqProofs only [Bool.not_true, Bool.not_false, Bool.or_true, Bool.or_false, Bool.true_and, Bool.false_and, Bool.false_eq_true, if_true, if_false, bind_ok, seq_next, seq_ret, is_name_b3_1, is_name_b4_0_eq, is_name_b4_1, e]
theorem m_name (n : Nat) (S : Store) (w : Str) (hw : w.cps.toList.length ≤ 400000) : d_is_name.sem (pg.tab (n + 2)) [.str w] S = .ok (.bl (isN w)) S := by
  have fin : ∀ (b : Bool) r, r = .ok (.ret (.bl b)) S → outR .cut S r = .ok (.bl b) S := fun b r hr => by subst hr; exact cut_same rfl
  have len : lenD [.str w] S = .ok (.int (w.cps.toList.length : Int)) S := by
    show (if w.length ≤ PySem.sizeLine then Res.ok (D.int w.length) S else .fail) = _
    rw [if_pos (small_line (by show w.cps.size ≤ _; rw [← Array.length_toList]; omega))]
    rfl
  rw [is_name_sem]
  refine fin _ _ ?_
  rw [is_name_b0_0_eq]
  simp -implicitDefEqProofs only [get_at, get_up, bind_ok, eq_str, asB_bl, orB, consR, len, gvM, gt_int, in_C, is_name_b1_0_eq, is_name_b1_1]
  unfold isN
  by_cases h0 : w = ""
  · simp -implicitDefEqProofs only [h0, decide_true, if_true, seq_ret, bind_ok, Bool.true_or, Bool.not_true, Bool.false_and]
  by_cases h6 : 6 < w.cps.toList.length
  · have h6' : (6 : Int) < (w.cps.toList.length : Int) := by omega
    simp -implicitDefEqProofs only [h0, h6, h6', decide_true, decide_false, Bool.false_eq_true, if_false, if_true, seq_ret, bind_ok, Bool.true_or, Bool.false_or, Bool.not_true, Bool.false_and]
  have h6' : ¬ (6 : Int) < (w.cps.toList.length : Int) := by omega
  cases hC : inC w with
  | true => simp -implicitDefEqProofs only [h0, h6, h6', decide_true, decide_false, Bool.false_eq_true, if_false, if_true, seq_ret, bind_ok, Bool.true_or, Bool.false_or, Bool.not_true, Bool.false_and]
  | false =>
    obtain ⟨c, r, hc⟩ := ne_empty h0
    have hh : hd0 w = c := by unfold hd0; rw [hc]; rfl
    have ix : ixD (.str w) (.int 0) S = .ok (.str ⟨#[c]⟩) S := by
      show (if w.length ≤ PySem.sizeLine then (match L2.atI w.cps.toList 0 with
        | some c => Res.ok (D.str ⟨#[c]⟩) S
        | none => .fail) else .fail) = _
      rw [if_pos (small_line (by show w.cps.size ≤ _; rw [← Array.length_toList]; omega)), hc, at_0]
    obtain ⟨a', e⟩ := name_loop n S w (w.cps.toList.map fun c => D.str ⟨#[c]⟩) w.cps.toList none
    simp -implicitDefEqProofs only [h0, h6, h6', decide_true, decide_false, Bool.false_eq_true, if_false, if_true, seq_next, bind_ok, Bool.true_or, Bool.false_or, Bool.not_true, Bool.not_false, Bool.true_and, is_name_b0_1_eq, get_at, get_up, ix, gvL, nin_one, asB_bl, is_name_b2_0_eq, is_name_b2_1, hh]
    have hal : alph c = decide (c ∈ ("abcdefghijklmnopqrstuvwxyz" : Str).cps.toList) := rfl
    rw [hal]
    cases decide (c ∈ ("abcdefghijklmnopqrstuvwxyz" : Str).cps.toList) with
    | false => simp -implicitDefEqProofs only [Bool.not_false, if_true, seq_ret, bind_ok, Bool.false_and]
    | true =>
      simp -implicitDefEqProofs only [Bool.not_true, Bool.false_eq_true, if_false, seq_next, is_name_b0_2_eq, get_at, get_up, bind_ok, iter_str, e, Bool.true_and]
      cases w.cps.toList.all al <;> simp -implicitDefEqProofs only [Bool.false_eq_true, if_false, if_true, seq_next, seq_ret, is_name_b0_3_eq, bind_ok]
end T80

set_option linter.all false
set_option maxRecDepth 100000
set_option maxHeartbeats 4000000
namespace T80
open PySem (Str)
open E
def fW (w : Nat) (j : Nat) : List (Str × D) := [("line", .int 0), ("words", .ref w), ("at", .int (j : Int))]
def Wo (w j : Nat) : Option Cell := some (.ins "Words" (fW w j))
def wd (ws : List Str) (j : Nat) : Str := ws.getD j ""
def bad {α : Type} (j : Nat) (S : Store) : Res α := .exc "BadText" [("line", .int 0), ("word", .int (j : Int))] S
/-- words read up to j -/
structure At (S : Store) (m w : Nat) (ws : List Str) (j : Nat) : Prop where
  m : S[m]? = some (Wo w j)
  w : cellL S w = some (sD ws)
  l : ws.length ≤ 1000000
section
variable {S : Store} {m w j : Nat} {ws : List Str}
theorem At.lt (h : At S m w ws j) : m < S.length := (List.getElem?_eq_some_iff.mp h.m).1
theorem At.ltw (h : At S m w ws j) : w < S.length := cell_lt h.w
theorem At.ne (h : At S m w ws j) : w ≠ m := fun e => by
  have a := cell_at h.w
  rw [e, h.m] at a
  cases a
theorem At.ins (h : At S m w ws j) : insL S (.ref m) = some (("Words" : Str), fW w j) := by
  show cellI S m = _
  unfold cellI
  rw [h.m]
  rfl
theorem At.set (h : At S m w ws j) (i : Nat) : At (S.set m (Wo w i)) m w ws i := ⟨by rw [List.getElem?_set_self h.lt], by rw [cell_ne h.ne]; exact h.w, h.l⟩
theorem At.app (h : At S m w ws j) (G : Store) : At (S ++ G) m w ws j := ⟨by rw [List.getElem?_append_left h.lt, h.m], cell_app h.w, h.l⟩
theorem set2 {S : Store} {m : Nat} (a b : Option Cell) : (S.set m a).set m b = S.set m b := by simp
theorem At.self (h : At S m w ws j) : S.set m (Wo w j) = S := by
  refine List.ext_getElem? fun i => ?_
  by_cases e : m = i
  · subst e
    rw [List.getElem?_set_self h.lt, h.m]
  · rw [List.getElem?_set_ne e]
theorem At.cl (h : At S m w ws j) (i : Nat) : clC S.length (.ins "Words" (fW w i)) = true := by
  have : decide (w < S.length) = true := decide_eq_true h.ltw
  show (true && (decide (w < S.length) && (true && true))) = true
  rw [this]
  rfl
theorem a_line (n : Nat) (h : At S m w ws j) : attrE (pg.tab (n + 2)) "line" (.ref m) S = .ok (.int 0) S := by
  unfold attrE
  rw [h.ins]
  rfl
theorem a_words (n : Nat) (h : At S m w ws j) : attrE (pg.tab (n + 2)) "words" (.ref m) S = .ok (.ref w) S := by
  unfold attrE
  rw [h.ins]
  rfl
theorem a_at (n : Nat) (h : At S m w ws j) : attrE (pg.tab (n + 2)) "at" (.ref m) S = .ok (.int j) S := by
  unfold attrE
  rw [h.ins]
  rfl
theorem p_at (n : Nat) (h : At S m w ws j) (i : Nat) (ρ : EnvD) : putR (pg.tab (n + 2)) "at" (.ref m) (.int (i : Int)) ρ S = .ok (.next ρ) (S.set m (Wo w i)) := by
  have hc : cellI S m = some (("Words" : Str), fW w j) := h.ins
  have : putE (pg.tab (n + 2)) "at" (.ref m) (.int (i : Int)) S = some (S.set m (Wo w i)) := by
    unfold putE
    simp only [hc]
    rw [if_pos ⟨rfl, by show 3 < 1000; omega⟩]
    rfl
  unfold putR
  rw [this]
theorem bad_cut (h : At S m w ws j) (i k : Nat) : outR .cut S (bad k (S.set m (Wo w i))) = bad k (S.set m (Wo w i)) := by
  have kp : Kept S (S.set m (Wo w i)) := by
    have := kept_set (G := []) (n := m) (h.cl i)
    rwa [List.append_nil] at this
  show ifc (Kept S (S.set m (Wo w i))) _ _ = _
  rw [ifc_pos kp]
  show Res.exc "BadText" _ ((S.set m (Wo w i)).take S.length) = _
  rw [List.take_of_length_le (by simp)]
  rfl
theorem bad_cut0 (h : At S m w ws j) (k : Nat) : outR .cut S (bad k S) = bad k S := by
  have := bad_cut h j k
  rwa [h.self] at this
theorem m_next (n : Nat) (h : At S m w ws j) : d_Words_next.sem (pg.tab (n + 2)) [.ref m] S = .ok (.str (wd ws j)) S := by
  have fin : ∀ (b : Str) r, r = .ok (.ret (.str b)) S → outR .cut S r = .ok (.str b) S := fun b r hr => by subst hr; exact cut_same rfl
  rw [Words_next_sem]
  refine fin _ _ ?_
  rw [Words_next_b0_0_eq]
  have lt : ((j : Int) < ((sD ws).length : Int)) ↔ j < ws.length := by simp; 
  simp -implicitDefEqProofs only [get_at, get_up, bind_ok, a_at n h, a_words n h, consR, len_c h.w, lt_int, asB_bl, lt]
  by_cases hj : j < ws.length
  · have e : L2.atI (sD ws) (j : Int) = some (D.str (wd ws j)) := by
      rw [at_nat (show j < (sD ws).length by simpa using hj)]
      simp [wd, hj]
    simp -implicitDefEqProofs only [hj, decide_true, if_true, Words_next_b1_0_eq, get_at, get_up, bind_ok, a_at n h, a_words n h, ix_c _ h.w, e, seq_ret]
  · have e : wd ws j = "" := by simp [wd, hj]
    simp -implicitDefEqProofs only [hj, decide_false, Bool.false_eq_true, if_false, seq_next, Words_next_b0_1_eq, bind_ok, seq_ret, e]
theorem m_ended (n : Nat) (h : At S m w ws j) : d_Words_ended.sem (pg.tab (n + 2)) [.ref m] S = .ok (.bl (decide (ws.length ≤ j))) S := by
  have fin : ∀ (b : Bool) r, r = .ok (.ret (.bl b)) S → outR .cut S r = .ok (.bl b) S := fun b r hr => by subst hr; exact cut_same rfl
  rw [Words_ended_sem]
  refine fin _ _ ?_
  rw [Words_ended_b0_0_eq]
  have lt : (((sD ws).length : Int) ≤ (j : Int)) ↔ ws.length ≤ j := by simp; 
  simp -implicitDefEqProofs only [get_at, get_up, bind_ok, a_at n h, a_words n h, consR, len_c h.w, ge_int, lt, seq_ret]
theorem m_refuse (n : Nat) (h : At S m w ws j) : d_Words_refuse.sem (pg.tab (n + 2)) [.ref m] S = bad j S := by
  rw [Words_refuse_sem, Words_refuse_b0_0_eq]
  simp -implicitDefEqProofs only [get_at, get_up, bind_ok, a_at n h, a_line n h, consR]
  exact bad_cut0 h j
theorem k0 (n : Nat) (h : At S m w ws j) : (mK0 (pg.tab (n + 2)) "next" (fun S1 => Res.ok [] S1) (.ref m) S = d_Words_next.sem (pg.tab (n + 1)) [.ref m] S) ∧
    (mK0 (pg.tab (n + 2)) "take" (fun S1 => Res.ok [] S1) (.ref m) S = d_Words_take.sem (pg.tab (n + 1)) [.ref m] S) ∧
    (mK0 (pg.tab (n + 2)) "ended" (fun S1 => Res.ok [] S1) (.ref m) S = d_Words_ended.sem (pg.tab (n + 1)) [.ref m] S) ∧
    (mK0 (pg.tab (n + 2)) "close" (fun S1 => Res.ok [] S1) (.ref m) S = d_Words_close.sem (pg.tab (n + 1)) [.ref m] S) ∧
    (mK0 (pg.tab (n + 2)) "refuse" (fun S1 => Res.ok [] S1) (.ref m) S = d_Words_refuse.sem (pg.tab (n + 1)) [.ref m] S) := by
  refine ⟨?_, ?_, ?_, ?_, ?_⟩ <;> (unfold mK0; rw [h.ins]; rfl)
theorem k1w (n : Nat) (h : At S m w ws j) (x : Str) : mK1 (pg.tab (n + 2)) "want" (fun S85 => consR (Res.ok (D.str x) S85) fun S86 => Res.ok [] S86) (.ref m) S = d_Words_want.sem (pg.tab (n + 1)) [.ref m, .str x] S := by
  unfold mK1
  rw [h.ins]
  rfl
theorem k_next (n : Nat) (h : At S m w ws j) : mK0 (pg.tab (n + 3)) "next" (fun S1 => Res.ok [] S1) (.ref m) S = .ok (.str (wd ws j)) S := (k0 (n + 1) h).1.trans (m_next n h)
theorem k_refuse (n : Nat) (h : At S m w ws j) : mK0 (pg.tab (n + 3)) "refuse" (fun S1 => Res.ok [] S1) (.ref m) S = bad j S := (k0 (n + 1) h).2.2.2.2.trans (m_refuse n h)
theorem k_ended (n : Nat) (h : At S m w ws j) : mK0 (pg.tab (n + 3)) "ended" (fun S1 => Res.ok [] S1) (.ref m) S = .ok (.bl (decide (ws.length ≤ j))) S := (k0 (n + 1) h).2.2.1.trans (m_ended n h)
theorem cut_o {S : Store} {m w i : Nat} {d : D} (hc : clC S.length (.ins "Words" (fW w i)) = true) (h : clD 0 d = true) : outR .cut S (.ok (.ret d) (S.set m (Wo w i))) = .ok d (S.set m (Wo w i)) := by
  have := cut_set (S := S) (G := []) (n := m) (d := d) hc h
  rwa [List.append_nil] at this
theorem cut_oN {S : Store} {m w i : Nat} {ρ : EnvD} (hc : clC S.length (.ins "Words" (fW w i)) = true) : outR .cut S (.ok (.next ρ) (S.set m (Wo w i))) = .ok .non (S.set m (Wo w i)) := by
  have := cut_setN (S := S) (G := []) (n := m) (ρ := ρ) hc
  rwa [List.append_nil] at this
theorem bad_bind {α β : Type} (k : Nat) (S : Store) (f : α → Store → Res β) : (bad k S : Res α).bind f = bad k S := rfl
theorem bad_seq (k : Nat) (S : Store) (f : EvS) : seqE (bad k S) f = bad k S := rfl
theorem m_take (n : Nat) (h : At S m w ws j) : d_Words_take.sem (pg.tab (n + 3)) [.ref m] S = .ok (.str (wd ws j)) (S.set m (Wo w (j + 1))) := by
  rw [Words_take_sem, Words_take_b0_0_eq]
  have a1 : ((j : Int) + 1) = ((j + 1 : Nat) : Int) := rfl
  simp -implicitDefEqProofs only [get_at, get_up, bind_ok, k_next n h, List.set_cons_succ, List.set_cons_zero, seq_next, Words_take_b0_1_eq, a_at (n + 1) h, add_int, a1, p_at (n + 1) h, Words_take_b0_2_eq, seq_ret]
  exact cut_o (h.cl _) rfl
theorem m_want (n : Nat) (h : At S m w ws j) (x : Str) : d_Words_want.sem (pg.tab (n + 3)) [.ref m, .str x] S = if wd ws j = x then .ok .non (S.set m (Wo w (j + 1))) else bad j S := by
  rw [Words_want_sem, Words_want_b0_0_eq]
  have a1 : ((j : Int) + 1) = ((j + 1 : Nat) : Int) := rfl
  simp -implicitDefEqProofs only [get_at, get_up, bind_ok, k_next n h, ne_str, asB_bl]
  by_cases e : wd ws j = x
  · simp -implicitDefEqProofs only [e, decide_true, Bool.not_true, Bool.false_eq_true, if_false, if_true, seq_next, Words_want_b0_1_eq, get_at, get_up, bind_ok, a_at (n + 1) h, add_int, a1, p_at (n + 1) h, Words_want_b0_2]
    exact cut_oN (h.cl _)
  · simp -implicitDefEqProofs only [e, decide_false, Bool.not_false, if_true, if_false, Words_want_b1_0_eq, get_at, get_up, bind_ok, k_refuse n h, bad_bind, bad_seq]
    exact bad_cut0 h j
theorem m_close (n : Nat) (h : At S m w ws j) : d_Words_close.sem (pg.tab (n + 3)) [.ref m] S = if ws.length ≤ j then .ok .non S else bad j S := by
  rw [Words_close_sem, Words_close_b0_0_eq]
  simp -implicitDefEqProofs only [get_at, get_up, bind_ok, k_ended n h, tru_bl]
  by_cases e : ws.length ≤ j
  · simp -implicitDefEqProofs only [e, decide_true, Bool.not_true, Bool.false_eq_true, if_false, if_true, seq_next, Words_close_b0_1]
    have := cut_oN (m := m) (ρ := [some (.ref m)]) (h.cl j)
    rwa [h.self] at this
  · simp -implicitDefEqProofs only [e, decide_false, Bool.not_false, if_true, if_false, Words_close_b1_0_eq, get_at, get_up, bind_ok, k_refuse n h, bad_bind, bad_seq]
    exact bad_cut0 h j
theorem k_take (n : Nat) (h : At S m w ws j) : mK0 (pg.tab (n + 4)) "take" (fun S1 => Res.ok [] S1) (.ref m) S = .ok (.str (wd ws j)) (S.set m (Wo w (j + 1))) := (k0 (n + 2) h).2.1.trans (m_take n h)
theorem k_close (n : Nat) (h : At S m w ws j) : mK0 (pg.tab (n + 4)) "close" (fun S1 => Res.ok [] S1) (.ref m) S = if ws.length ≤ j then .ok .non S else bad j S := (k0 (n + 2) h).2.2.2.1.trans (m_close n h)
theorem k_want (n : Nat) (h : At S m w ws j) (x : Str) : mK1 (pg.tab (n + 4)) "want" (fun S85 => consR (Res.ok (D.str x) S85) fun S86 => Res.ok [] S86) (.ref m) S = if wd ws j = x then .ok .non (S.set m (Wo w (j + 1))) else bad j S := (k1w (n + 2) h x).trans (m_want n h x)
end
end T80

set_option linter.all false
set_option maxRecDepth 100000
set_option maxHeartbeats 4000000
namespace T80
open PySem (Str)
open E
/-! ### the reader -/
abbrev Rd1 := Option Sy × Nat
def loopP (ws : List Str) (w : Str) (one : Nat → Rd1) : Nat → Sy → Nat → Rd1
  | 0, x, j => (some x, j)
  | f + 1, x, j => if wd ws j = w then (match one (j + 1) with
    | (some y, i) => loopP ws w one f (.bin w x y) i
    | (none, i) => (none, i)) else (some x, j)
def chain (ws : List Str) (w : Str) (one : Nat → Rd1) (j : Nat) : Rd1 := match one j with
  | (some x, i) => loopP ws w one ws.length x i
  | (none, i) => (none, i)
def pOne (nm ws : List Str) : Nat → Nat → Rd1
  | 0, j => (none, j)
  | k + 1, j =>
    if wd ws j = "not" ∨ wd ws j = "some" ∨ wd ws j = "all" then (match pOne nm ws k (j + 1) with
      | (some x, i) => (some (.un (wd ws j) x), i)
      | (none, i) => (none, i)) else
    if wd ws j = "at" then (if wd ws (j + 1) = "1" ∨ wd ws (j + 1) = "2" then (match pOne nm ws k (j + 2) with
      | (some x, i) => (some (.at_ (if wd ws (j + 1) = "1" then 1 else 2) x), i)
      | (none, i) => (none, i)) else (none, j + 1)) else
    if wd ws j = "(" then (match chain ws "or" (chain ws "and" (pOne nm ws k)) (j + 1) with
      | (some x, i) => if wd ws i = ")" then (some x, i + 1) else (none, i)
      | (none, i) => (none, i)) else
    if wd ws j = "is" then (if wd ws (j + 1) ∈ nm then (some (.is_ (wd ws (j + 1))), j + 2) else (none, j + 1)) else (none, j)
def pOr (nm ws : List Str) (k j : Nat) : Rd1 := chain ws "or" (chain ws "and" (pOne nm ws k)) j
end T80

set_option linter.all false
set_option maxRecDepth 100000
set_option maxHeartbeats 4000000
namespace T80
open PySem (Str)
open E
open L2 (V)
abbrev nmS (st : List (Str × List D)) : List Str := st.map (·.1)
def resW (r : Rd1) (S : Store) (m w : Nat) : Res D := match r with
  | (some x, i) => .ok (enc x) (S.set m (Wo w i))
  | (none, i) => bad i (S.set m (Wo w i))
theorem names_comp (tg : D → Option EnvD) (hf : ∀ x, ∃ ρ, tg x = some ρ ∧ ρ[2]? = some (some x)) (all : List D) (S : Store) : ∀ (st : List (Str × List D)) (acc : List Str), acc.length + st.length ≤ 1000 →
    compL tg (fun _ S => Res.ok true S) (fun r18 S19 => (getE r18 2 S19).bind fun d20 S21 => (Res.ok (D.int 0) S21).bind fun d22 S23 => ixD d20 d22 S23) .still all S.length (st.map mkD) (S ++ [some (.lst (sD acc))]) = .ok () (S ++ [some (.lst (sD (acc ++ nmS st)))])
  | [], acc, _ => by rw [List.map_nil, comp_nil]; simp
  | p :: st, acc, h => by
    obtain ⟨ρ, h1, h2⟩ := hf (mkD p)
    simp only [List.length_cons] at h
    rw [List.map_cons, comp_cons, h1]
    simp -implicitDefEqProofs only [bind_ok, get_of h2]
    rw [show ixD (mkD p) (.int 0) (S ++ [some (.lst (sD acc))]) = .ok (.str p.1) (S ++ [some (.lst (sD acc))]) from by unfold mkD; rw [ix_t, at_0]]
    simp -implicitDefEqProofs only [cell_end S (sD acc), set_end]
    rw [if_pos (Nat.lt_of_lt_of_le (show (sD acc).length < 3000000 by simp; omega) (small_line (by decide)))]
    have ih := names_comp tg hf all S st (acc ++ [p.1]) (by simp; omega)
    simp -implicitDefEqProofs only [bind_ok] at ih
    rw [show sD acc ++ [D.str p.1] = sD (acc ++ [p.1]) by simp [sD], ih]
    simp [nmS]
theorem any_str (x : Str) : ∀ ys : List Str, ((ys.map V.str).any fun y => L2.eqV y (.str x)) = decide (x ∈ ys)
  | [] => rfl
  | y :: ys => by
    rw [List.map_cons, List.any_cons, any_str x ys]
    show ((y == x) || decide (x ∈ ys)) = decide (x ∈ y :: ys)
    by_cases h : x = y
    · subst h; simp
    · have h2 : ¬ y = x := fun e => h e.symm
      simp [h, h2]
theorem flats_str : ∀ ys : List Str, flatsD (sD ys) = some (ys.map V.str)
  | [] => rfl
  | y :: ys => by
    show (match flatD (.str y), flatsD (sD ys) with
      | some v, some vs => some (v :: vs)
      | _, _ => none) = _
    rw [flats_str ys]
    rfl
theorem nin_c (x : Str) (ys : List Str) (S : Store) (n : Nat) (h : cellL S n = some (sD ys)) : cmpD .NotIn (.str x) (.ref n) S = .ok (.bl (!decide (x ∈ ys))) S := by
  have e : seqL S (.ref n) = some (sD ys) := h
  cases x with
  | mk c =>
    show (match flatD (.str ⟨c⟩), (seqL S (.ref n)).bind flatsD with
      | some x, some xs => Res.ok (D.bl (if true then !L2.inV x xs else L2.inV x xs)) S
      | _, _ => .fail) = _
    rw [e]
    show (match flatD (.str ⟨c⟩), flatsD (sD ys) with
      | some x, some xs => Res.ok (D.bl (if true then !L2.inV x xs else L2.inV x xs)) S
      | _, _ => .fail) = _
    rw [flats_str]
    show Res.ok (D.bl (!L2.inV (.str ⟨c⟩) (ys.map _))) S = _
    unfold L2.inV
    rw [any_str]
end T80

set_option linter.all false
set_option maxRecDepth 100000
set_option maxHeartbeats 4000000
namespace T80
open PySem (Str)
open E
theorem bad_cutG {S : Store} {m w j : Nat} {ws : List Str} (h : At S m w ws j) (i k : Nat) (G : Store) : outR .cut S (bad k (S.set m (Wo w i) ++ G)) = bad k (S.set m (Wo w i)) := by
  have kp : Kept S (S.set m (Wo w i) ++ G) := kept_set (n := m) (h.cl i)
  show ifc (Kept S (S.set m (Wo w i) ++ G)) _ _ = _
  rw [ifc_pos kp]
  show Res.exc "BadText" _ ((S.set m (Wo w i) ++ G).take S.length) = _
  rw [List.take_left' (by simp)]
  rfl
theorem set_app {S G : Store} {m : Nat} (h : m < S.length) (c : Option Cell) : (S ++ G).set m c = S.set m c ++ G := List.set_append_left _ _ h
/-- a maker's name -/
theorem m_maker (st : List (Str × List D)) (hst : st.length ≤ 1000) (hnm : ∀ p ∈ st, p.1 ∈ NM) (n : Nat) {S : Store} {m w j : Nat} {ws : List Str} (h : At S m w ws j) (hl : (wd ws j).cps.toList.length ≤ 400000) :
    d_read_maker.sem (pg.tab (n + 4)) [stD st, .ref m] S = if wd ws j ∈ nmS st then .ok (.str (wd ws j)) (S.set m (Wo w (j + 1))) else bad j S := by
  rw [read_maker_sem, read_maker_b0_0_eq]
  have t1 : ∀ S, truR (.ok (.bl (isN (wd ws j))) S) = .ok (isN (wd ws j)) S := fun S => tru_bl _ S
  simp -implicitDefEqProofs only [get_at, get_up, bind_ok, k_next (n + 1) h, consR, m_name (n + 1) S _ hl, t1, orB]
  have off : isN (wd ws j) = false → wd ws j ∉ nmS st := fun e hm => by
    obtain ⟨p, hp, hq⟩ := List.mem_map.mp hm
    have := nm_isN (hnm p hp)
    rw [hq, e] at this
    cases this
  have c := names_comp (fun x => some (List.set (wipeD [some (stD st), some (D.ref m), none] [2]) 2 (some x))) (fun x => ⟨_, rfl, rfl⟩) (st.map mkD) S st [] (by simp; exact hst)
  cases hN : isN (wd ws j) with
  | false =>
    simp -implicitDefEqProofs only [Bool.not_false, if_true, read_maker_b1_0_eq, get_at, get_up, bind_ok, k_refuse (n + 1) h, bad_bind, bad_seq, off hN, if_false]
    exact bad_cut0 h j
  | true =>
    simp -implicitDefEqProofs only [Bool.not_true, Bool.false_eq_true, if_false, get_at, get_up, bind_ok, k_next (n + 1) h]
    rw [show iterD (stD st) S = .ok (st.map mkD, .still) S from rfl]
    simp -implicitDefEqProofs only [bind_ok] at c ⊢
    unfold compR
    rw [show (S ++ [some (Cell.lst [])]) = S ++ [some (.lst (sD []))] from rfl, c]
    have hA := h.app [some (.lst (sD ([] ++ nmS st)))]
    simp -implicitDefEqProofs only [bind_ok, nin_c _ _ _ _ (cell_end S (sD ([] ++ nmS st))), asB_bl]
    rw [List.nil_append] at hA ⊢
    by_cases hm : wd ws j ∈ nmS st
    · simp -implicitDefEqProofs only [hm, decide_true, Bool.not_true, Bool.false_eq_true, if_false, if_true, seq_next, read_maker_b0_1_eq, get_at, get_up, bind_ok, k_take n hA, seq_ret]
      rw [set_app h.lt]
      exact cut_set (h.cl _) rfl
    · simp -implicitDefEqProofs only [hm, decide_false, Bool.not_false, if_true, if_false, read_maker_b1_0_eq, get_at, get_up, bind_ok, k_refuse (n + 1) hA, bad_bind, bad_seq]
      have := bad_cutG h j j [some (.lst (sD (nmS st)))]
      rwa [h.self] at this
end T80

set_option linter.all false
set_option maxRecDepth 100000
set_option maxHeartbeats 4000000
namespace T80
open PySem (Str)
open E
def resF (r : Rd1) (ρ : D → EnvD) (S : Store) (m w : Nat) : Res Fl := match r with
  | (some x, i) => .ok (.next (ρ (enc x))) (S.set m (Wo w i))
  | (none, i) => bad i (S.set m (Wo w i))
theorem wd_lt {ws : List Str} {j : Nat} (h : wd ws j ≠ "") : j < ws.length := by
  by_cases e : j < ws.length
  · exact e
  · exact absurd (by simp [wd, e]) h
theorem while_ok {c : EvB} {b : EvS} (F : Nat) (ρ : EnvD) (S : Store) (t : Bool) (h : c ρ S = .ok t S) : whileE c b (F + 1) ρ S = if t then (b ρ S).bind (fun fl S2 => match fl with
    | .next ρ2 => whileE c b F ρ2 S2
    | .cont ρ2 => whileE c b F ρ2 S2
    | .brk ρ2 => .ok (.next ρ2) S2
    | .ret d => .ok (.ret d) S2) else .ok (.next ρ) S := by
  show (c ρ S).bind _ = _
  rw [h]
  rfl
/-- the words told one by one -/
theorem chain_loop {m w : Nat} {ws : List Str} (wo : Str) (hwo : wo ≠ "") (one : Nat → Rd1) (pr : ∀ j x i, one j = (some x, i) → j < i) (ρ : D → EnvD) (c : EvB) (b : EvS)
    (hc : ∀ x S j, At S m w ws j → c (ρ x) S = .ok (decide (wd ws j = wo)) S)
    (hb : ∀ x S j, At S m w ws j → b (ρ (enc x)) S = resF ((match one (j + 1) with
      | (some y, i) => (some (.bin wo x y), i)
      | (none, i) => (none, i))) ρ S m w) : ∀ (f : Nat) (x : Sy) (S : Store) (j F : Nat), At S m w ws j → ws.length ≤ j + f → f < F →
    whileE c b F (ρ (enc x)) S = resF (loopP ws wo one f x j) ρ S m w
  | f, x, S, j, 0, h, hf, hF => absurd hF (Nat.not_lt_zero _)
  | 0, x, S, j, F + 1, h, hf, hF => by
    have e : ¬ wd ws j = wo := fun e => by have := wd_lt (e ▸ hwo : wd ws j ≠ ""); omega
    rw [while_ok F _ S _ (hc _ S j h)]
    simp only [e, decide_false, Bool.false_eq_true, if_false, loopP, resF, h.self]
  | f + 1, x, S, j, F + 1, h, hf, hF => by
    rw [while_ok F _ S _ (hc _ S j h)]
    by_cases e : wd ws j = wo
    · simp only [e, decide_true, if_true, loopP]
      rw [hb x S j h]
      cases hr : one (j + 1) with
      | mk o i =>
        cases o with
        | none => rfl
        | some y =>
          have hi := pr _ _ _ hr
          show whileE c b F (ρ (enc (.bin wo x y))) (S.set m (Wo w i)) = _
          rw [chain_loop wo hwo one pr ρ c b hc hb f (.bin wo x y) (S.set m (Wo w i)) i F (h.set i) (by omega) (by omega)]
          show resF (loopP ws wo one f (.bin wo x y) i) ρ _ m w = resF (loopP ws wo one f (.bin wo x y) i) ρ S m w
          cases loopP ws wo one f (.bin wo x y) i with
          | mk o k => cases o <;> simp only [resF, set2]
    · simp only [e, decide_false, Bool.false_eq_true, if_false, loopP, resF, h.self]
end T80

set_option linter.all false
set_option maxRecDepth 100000
set_option maxHeartbeats 4000000
namespace T80
open PySem (Str)
open E
section
variable {m w : Nat} {ws : List Str}
/-- what a reader of one must be -/
def OneOk (f : List D → Store → Res D) (sd : D) (deep : Int) (m w : Nat) (ws : List Str) (one : Nat → Rd1) : Prop := ∀ S j, At S m w ws j → f [sd, .ref m, .int deep] S = resW (one j) S m w
theorem res_cut {S : Store} {j : Nat} (h : At S m w ws j) (r : Rd1) : outR .cut S (match r with
    | (some x, i) => .ok (.ret (enc x)) (S.set m (Wo w i))
    | (none, i) => bad i (S.set m (Wo w i))) = resW r S m w := by
  obtain ⟨o, i⟩ := r
  cases o with
  | none => exact bad_cut h i i
  | some x => exact cut_o (h.cl i) (cl_enc x)
theorem m_and (n : Nat) (sd : D) (deep : Int) (one : Nat → Rd1) (pr : ∀ j x i, one j = (some x, i) → j < i) (hl : ws.length < 2000) (ho : OneOk (d_read_one.sem (pg.tab (n + 3))) sd deep m w ws one) :
    OneOk (d_read_together.sem (pg.tab (n + 4))) sd deep m w ws (chain ws "and" one) := by
  intro S j h
  rw [read_together_sem, read_together_b0_0_eq]
  simp -implicitDefEqProofs only [get_at, get_up, bind_ok, consR]
  rw [ho S j h]
  unfold chain
  obtain hr | ⟨x, hr⟩ : (∃ i, one j = (none, i)) ∨ ∃ x, ∃ i, one j = (some x, i) := by
    cases one j with
    | mk o i => cases o with
      | none => exact .inl ⟨i, rfl⟩
      | some x => exact .inr ⟨x, i, rfl⟩
  · obtain ⟨i, hr⟩ := hr
    rw [hr]
    exact bad_cut h i i
  · obtain ⟨i, hr⟩ := hr
    rw [hr]
    simp -implicitDefEqProofs only [resW, bind_ok, List.set_cons_succ, List.set_cons_zero, seq_next, read_together_b0_1_eq]
    have hi := h.set i
    rw [chain_loop (m := m) (w := w) (ws := ws) "and" (by decide +kernel) one pr (fun d => [some sd, some (.ref m), some (.int deep), some d]) _ (read_together_b1_0 (n + 2)) (fun x S j h => by
        simp -implicitDefEqProofs only [get_at, get_up, bind_ok, k_next (n + 1) h, eq_str, asB_bl]) (fun x S j h => by
        rw [read_together_b1_0_eq]
        simp -implicitDefEqProofs only [get_at, get_up, bind_ok, k_take n h, seq_next, read_together_b1_1_eq, consR]
        rw [ho _ _ (h.set (j + 1))]
        cases one (j + 1) with
        | mk o k => cases o with
          | none =>
            simp -implicitDefEqProofs only [resW, bad_bind, bad_seq, resF, set2]
          | some y =>
            simp -implicitDefEqProofs only [resW, bind_ok, resF, set2, tup3, List.set_cons_succ, List.set_cons_zero, seq_next, read_together_b1_2]
            rfl) ws.length x _ i 2000 hi (by omega) hl]
    refine Eq.trans (congrArg (outR .cut S) ?_) (res_cut h (loopP ws "and" one ws.length x i))
    cases loopP ws "and" one ws.length x i with
    | mk o k => cases o with
      | none => simp -implicitDefEqProofs only [resF, bad_seq, set2]
      | some y => simp -implicitDefEqProofs only [resF, seq_next, set2, read_together_b0_2_eq, get_at, get_up, bind_ok, seq_ret]
end
end T80

set_option linter.all false
set_option maxRecDepth 100000
set_option maxHeartbeats 4000000
namespace T80
open PySem (Str)
open E
section
variable {m w : Nat} {ws : List Str}
theorem m_or (n : Nat) (sd : D) (deep : Int) (one : Nat → Rd1) (pr : ∀ j x i, one j = (some x, i) → j < i) (hl : ws.length < 2000) (ho : OneOk (d_read_together.sem (pg.tab (n + 3))) sd deep m w ws one) :
    OneOk (d_read_alternative.sem (pg.tab (n + 4))) sd deep m w ws (chain ws "or" one) := by
  intro S j h
  rw [read_alternative_sem, read_alternative_b0_0_eq]
  simp -implicitDefEqProofs only [get_at, get_up, bind_ok, consR]
  rw [ho S j h]
  unfold chain
  obtain hr | ⟨x, hr⟩ : (∃ i, one j = (none, i)) ∨ ∃ x, ∃ i, one j = (some x, i) := by
    cases one j with
    | mk o i => cases o with
      | none => exact .inl ⟨i, rfl⟩
      | some x => exact .inr ⟨x, i, rfl⟩
  · obtain ⟨i, hr⟩ := hr
    rw [hr]
    exact bad_cut h i i
  · obtain ⟨i, hr⟩ := hr
    rw [hr]
    simp -implicitDefEqProofs only [resW, bind_ok, List.set_cons_succ, List.set_cons_zero, seq_next, read_alternative_b0_1_eq]
    have hi := h.set i
    rw [chain_loop (m := m) (w := w) (ws := ws) "or" (by decide +kernel) one pr (fun d => [some sd, some (.ref m), some (.int deep), some d]) _ (read_alternative_b1_0 (n + 2)) (fun x S j h => by
        simp -implicitDefEqProofs only [get_at, get_up, bind_ok, k_next (n + 1) h, eq_str, asB_bl]) (fun x S j h => by
        rw [read_alternative_b1_0_eq]
        simp -implicitDefEqProofs only [get_at, get_up, bind_ok, k_take n h, seq_next, read_alternative_b1_1_eq, consR]
        rw [ho _ _ (h.set (j + 1))]
        cases one (j + 1) with
        | mk o k => cases o with
          | none =>
            simp -implicitDefEqProofs only [resW, bad_bind, bad_seq, resF, set2]
          | some y =>
            simp -implicitDefEqProofs only [resW, bind_ok, resF, set2, tup3, List.set_cons_succ, List.set_cons_zero, seq_next, read_alternative_b1_2]
            rfl) ws.length x _ i 2000 hi (by omega) hl]
    refine Eq.trans (congrArg (outR .cut S) ?_) (res_cut h (loopP ws "or" one ws.length x i))
    cases loopP ws "or" one ws.length x i with
    | mk o k => cases o with
      | none => simp -implicitDefEqProofs only [resF, bad_seq, set2]
      | some y => simp -implicitDefEqProofs only [resF, seq_next, set2, read_alternative_b0_2_eq, get_at, get_up, bind_ok, seq_ret]
end
end T80

set_option linter.all false
set_option maxRecDepth 100000
set_option maxHeartbeats 4000000
namespace T80
open PySem (Str)
open E
theorem loop_pr {ws : List Str} {wo : Str} {one : Nat → Rd1} (pr : ∀ j x i, one j = (some x, i) → j < i) : ∀ (f : Nat) (x : Sy) (j : Nat) (y : Sy) (i : Nat), loopP ws wo one f x j = (some y, i) → j ≤ i
  | 0, x, j, y, i, h => by cases h; exact Nat.le_refl _
  | f + 1, x, j, y, i, h => by
    unfold loopP at h
    split at h
    · cases hr : one (j + 1) with
      | mk o k => cases o with
        | none => rw [hr] at h; cases h
        | some z =>
          rw [hr] at h
          have := loop_pr pr f _ k y i h
          have := pr _ _ _ hr
          omega
    · cases h; exact Nat.le_refl _
theorem chain_pr {ws : List Str} {wo : Str} {one : Nat → Rd1} (pr : ∀ j x i, one j = (some x, i) → j < i) (j : Nat) (x : Sy) (i : Nat) (h : chain ws wo one j = (some x, i)) : j < i := by
  unfold chain at h
  cases hr : one j with
  | mk o k => cases o with
    | none => rw [hr] at h; cases h
    | some z =>
      rw [hr] at h
      have := loop_pr pr _ _ _ _ _ h
      have := pr _ _ _ hr
      omega
theorem pOne_pr (nm ws : List Str) : ∀ (k j : Nat) (x : Sy) (i : Nat), pOne nm ws k j = (some x, i) → j < i
  | 0, j, x, i, h => by cases h
  | k + 1, j, x, i, h => by
    have ih := pOne_pr nm ws k
    unfold pOne at h
    split at h
    · cases hr : pOne nm ws k (j + 1) with
      | mk o l => cases o with
        | none => rw [hr] at h; cases h
        | some z => rw [hr] at h; cases h; have := ih _ _ _ hr; omega
    split at h
    · split at h
      · cases hr : pOne nm ws k (j + 2) with
        | mk o l => cases o with
          | none => rw [hr] at h; cases h
          | some z => rw [hr] at h; cases h; have := ih _ _ _ hr; omega
      · cases h
    split at h
    · cases hr : chain ws "or" (chain ws "and" (pOne nm ws k)) (j + 1) with
      | mk o l => cases o with
        | none => rw [hr] at h; cases h
        | some z =>
          rw [hr] at h
          have := chain_pr (chain_pr ih) _ _ _ hr
          simp only at h
          split at h
          · cases h; omega
          · cases h
    split at h
    · split at h
      · cases h; omega
      · cases h
    · cases h
end T80

set_option linter.all false
set_option maxRecDepth 100000
set_option maxHeartbeats 4000000
namespace T80
open PySem (Str)
open E
open L2 (V)
theorem gvD : gv "DEEPEST" = .int 40 := by kernel_rfl
theorem in_t (x : Str) (ys : List Str) (S : Store) (neg : Bool) : inD neg (.str x) (.tup (sD ys)) S = .ok (.bl (if neg then !decide (x ∈ ys) else decide (x ∈ ys))) S := by
  cases x with
  | mk c =>
    show (match flatD (.str ⟨c⟩), flatsD (sD ys) with
      | some x, some xs => Res.ok (D.bl (if neg then !L2.inV x xs else L2.inV x xs)) S
      | _, _ => .fail) = _
    rw [flats_str]
    show Res.ok (D.bl (if neg then !L2.inV (.str ⟨c⟩) (ys.map _) else L2.inV (.str ⟨c⟩) (ys.map _))) S = _
    unfold L2.inV
    rw [any_str]
theorem in_3 (x : Str) (S : Store) : cmpD .In (.str x) (.tup [.str "not", .str "some", .str "all"]) S = .ok (.bl (decide (x = "not" ∨ x = "some" ∨ x = "all"))) S := by
  refine (show cmpD .In (.str x) (.tup [.str "not", .str "some", .str "all"]) S = inD false (.str x) (.tup [.str "not", .str "some", .str "all"]) S from rfl).trans ?_
  have := in_t x ["not", "some", "all"] S false
  simpa using this
theorem nin_2 (x : Str) (S : Store) : cmpD .NotIn (.str x) (.tup [.str "1", .str "2"]) S = .ok (.bl (!decide (x = "1" ∨ x = "2"))) S := by
  refine (show cmpD .NotIn (.str x) (.tup [.str "1", .str "2"]) S = inD true (.str x) (.tup [.str "1", .str "2"]) S from rfl).trans ?_
  have := in_t x ["1", "2"] S true
  simpa using this
theorem int_12 {x : Str} (h : x = "1" ∨ x = "2") (S : Store) : intD [.str x] S = .ok (.int (if x = "1" then 1 else 2)) S := by
  rcases h with rfl | rfl <;> kernel_rfl
section
variable {m w : Nat} {ws : List Str}
theorem resW_set {S : Store} {a : Option Cell} (r : Rd1) : resW r (S.set m a) m w = resW r S m w := by
  obtain ⟨o, i⟩ := r
  cases o <;> simp only [resW, set2]
theorem m_one (st : List (Str × List D)) (hst : st.length ≤ 1000) (hnm : ∀ p ∈ st, p.1 ∈ NM) (hl : ws.length < 2000) (hw : ∀ j, (wd ws j).cps.toList.length ≤ 400000) : ∀ (k n : Nat), k ≤ 40 →
    OneOk (d_read_one.sem (pg.tab (n + 3 * k + 5))) (stD st) (40 - (k : Int)) m w ws (pOne (nmS st) ws k)
  | 0, n, hk => by
    intro S j h
    rw [read_one_sem, read_one_b0_0_eq]
    have e : (40 : Int) ≤ 40 - ((0 : Nat) : Int) := by omega
    simp -implicitDefEqProofs only [get_at, get_up, bind_ok, gvD, ge_int, e, decide_true, asB_bl, if_true, read_one_b1_0_eq]
    rw [k_refuse _ h]
    simp -implicitDefEqProofs only [bad_bind, bad_seq, pOne, resW, h.self]
    exact bad_cut0 h j
  | k + 1, n, hk => by
    intro S j h
    have ih := m_one st hst hnm hl hw k (n + 2) (by omega)
    have ihA := m_one st hst hnm hl hw k n (by omega)
    have or_ := m_or (n + 3 * k + 3) (stD st) (40 - (k : Int)) _ (chain_pr (pOne_pr (nmS st) ws k)) hl (m_and (n + 3 * k + 2) (stD st) (40 - (k : Int)) _ (pOne_pr (nmS st) ws k) hl ihA)
    rw [show n + 3 * (k + 1) + 5 = n + 3 * k + 6 + 2 by omega, read_one_sem, read_one_b0_0_eq]
    have e : ¬ (40 : Int) ≤ 40 - ((k + 1 : Nat) : Int) := by omega
    have e1 : (40 - ((k + 1 : Nat) : Int)) + 1 = 40 - (k : Int) := by omega
    generalize hq : n + 3 * k = q at or_ ihA
    rw [show n + 2 + 3 * k + 5 = q + 7 by omega] at ih
    have kn : ∀ {S : Store} {j : Nat}, At S m w ws j → mK0 (pg.tab (q + 6 + 2)) "next" (fun S1 => Res.ok [] S1) (.ref m) S = .ok (.str (wd ws j)) S := fun h => k_next (q + 5) h
    have kr : ∀ {S : Store} {j : Nat}, At S m w ws j → mK0 (pg.tab (q + 6 + 2)) "refuse" (fun S1 => Res.ok [] S1) (.ref m) S = bad j S := fun h => k_refuse (q + 5) h
    have kt : ∀ {S : Store} {j : Nat}, At S m w ws j → mK0 (pg.tab (q + 6 + 2)) "take" (fun S1 => Res.ok [] S1) (.ref m) S = .ok (.str (wd ws j)) (S.set m (Wo w (j + 1))) := fun h => k_take (q + 4) h
    have kw : ∀ {S : Store} {j : Nat} (x : Str), At S m w ws j → mK1 (pg.tab (q + 6 + 2)) "want" (fun S85 => consR (Res.ok (D.str x) S85) fun S86 => Res.ok [] S86) (.ref m) S = if wd ws j = x then .ok .non (S.set m (Wo w (j + 1))) else bad j S := fun x h => k_want (q + 4) h x
    have mk_ : ∀ {S : Store} {j : Nat}, At S m w ws j → d_read_maker.sem (pg.tab (q + 6 + 1)) [stD st, .ref m] S = if wd ws j ∈ nmS st then .ok (.str (wd ws j)) (S.set m (Wo w (j + 1))) else bad j S := fun h => m_maker st hst hnm (q + 3) h (hw _)
    have ih' : OneOk (d_read_one.sem (pg.tab (q + 6 + 1))) (stD st) (40 - (k : Int)) m w ws (pOne (nmS st) ws k) := ih
    have or' : OneOk (d_read_alternative.sem (pg.tab (q + 6 + 1))) (stD st) (40 - (k : Int)) m w ws (chain ws "or" (chain ws "and" (pOne (nmS st) ws k))) := or_
    have rc := fun r => res_cut h r
    simp -implicitDefEqProofs only [get_at, get_up, bind_ok, gvD, ge_int, e, decide_false, Bool.false_eq_true, asB_bl, if_false, seq_next, read_one_b0_1_eq, kn h, List.set_cons_succ, List.set_cons_zero, read_one_b0_2_eq, consR, tup3, in_3]
    unfold pOne
    by_cases c1 : wd ws j = "not" ∨ wd ws j = "some" ∨ wd ws j = "all"
    · simp -implicitDefEqProofs only [c1, decide_true, if_true, read_one_b2_0_eq, get_at, get_up, bind_ok, kt h, seq_next, read_one_b2_1_eq, consR, sub_int, add_int, e1]
      rw [ih' _ _ (h.set (j + 1))]
      rw [← rc]
      cases pOne (nmS st) ws k (j + 1) with
      | mk o i => cases o with
        | none => simp -implicitDefEqProofs only [resW, bad_bind, bad_seq, set2]
        | some x => simp -implicitDefEqProofs only [resW, bind_ok, tup2, seq_ret, set2, enc]
    simp -implicitDefEqProofs only [c1, decide_false, Bool.false_eq_true, if_false, seq_next, read_one_b0_3_eq, get_at, get_up, bind_ok, eq_str, asB_bl]
    by_cases c2 : wd ws j = "at"
    · simp -implicitDefEqProofs only [c2, decide_true, if_true, read_one_b3_0_eq, get_at, get_up, bind_ok, kt h, seq_next, read_one_b3_1_eq, kn (h.set (j + 1)), consR, tup2, nin_2, asB_bl]
      by_cases c3 : wd ws (j + 1) = "1" ∨ wd ws (j + 1) = "2"
      · simp -implicitDefEqProofs only [c3, decide_true, Bool.not_true, Bool.false_eq_true, if_false, if_true, seq_next, read_one_b3_2_eq, get_at, get_up, bind_ok, kt (h.set (j + 1)), consR, int_12 c3, List.set_cons_succ, List.set_cons_zero, read_one_b3_3_eq, add_int, e1]
        rw [ih' _ _ ((h.set (j + 1)).set (j + 1 + 1))]
        rw [← rc]
        cases pOne (nmS st) ws k (j + 1 + 1) with
        | mk o i => cases o with
          | none => simp -implicitDefEqProofs only [resW, bad_bind, bad_seq, set2]
          | some x => simp -implicitDefEqProofs only [resW, bind_ok, tup3, seq_ret, set2, enc]
      · simp -implicitDefEqProofs only [c3, decide_false, Bool.not_false, if_true, if_false, read_one_b4_0_eq, get_at, get_up, bind_ok, kr (h.set (j + 1)), bad_bind, bad_seq]
        exact rc (none, j + 1)
    simp -implicitDefEqProofs only [c2, decide_false, Bool.false_eq_true, if_false, seq_next, read_one_b0_4_eq, get_at, get_up, bind_ok, eq_str, asB_bl]
    by_cases c4 : wd ws j = "("
    · simp -implicitDefEqProofs only [c4, decide_true, if_true, read_one_b5_0_eq, get_at, get_up, bind_ok, kt h, seq_next, read_one_b5_1_eq, consR, add_int, e1]
      rw [or' _ _ (h.set (j + 1))]
      rw [← rc]
      cases chain ws "or" (chain ws "and" (pOne (nmS st) ws k)) (j + 1) with
      | mk o i => cases o with
        | none => simp -implicitDefEqProofs only [resW, bad_bind, bad_seq, set2]
        | some x =>
          simp -implicitDefEqProofs only [resW, bind_ok, set2, List.set_cons_succ, List.set_cons_zero, seq_next, read_one_b5_2_eq, get_at, get_up, kw _ (h.set i)]
          by_cases c5 : wd ws i = ")"
          · simp -implicitDefEqProofs only [c5, if_true, bind_ok, seq_next, read_one_b5_3_eq, get_at, get_up, seq_ret, set2]
          · simp -implicitDefEqProofs only [c5, if_false, bad_bind, bad_seq]
    simp -implicitDefEqProofs only [c4, decide_false, Bool.false_eq_true, if_false, seq_next, read_one_b0_5_eq, get_at, get_up, bind_ok, kw _ h]
    by_cases c6 : wd ws j = "is"
    · simp -implicitDefEqProofs only [c6, if_true, bind_ok, seq_next, read_one_b0_6_eq, get_at, get_up, consR, mk_ (h.set (j + 1))]
      by_cases c7 : wd ws (j + 1) ∈ nmS st
      · simp -implicitDefEqProofs only [c7, if_true, bind_ok, tup2, seq_ret, set2]
        exact rc (some (.is_ (wd ws (j + 1))), j + 2)
      · simp -implicitDefEqProofs only [c7, if_false, bad_bind, bad_seq]
        exact rc (none, j + 1)
    · simp -implicitDefEqProofs only [c6, if_false, bad_bind, bad_seq]
      show outR .cut S (bad j S) = bad j (S.set m (Wo w j))
      rw [h.self]
      exact bad_cut0 h j
end
end T80

set_option linter.all false
set_option maxRecDepth 100000
set_option maxHeartbeats 4000000
namespace T80
open PySem (Str)
open E
/-! ### the law's reader -/
def encO : Option Sy → D
  | none => .non
  | some x => enc x
def resL (r : Rd1) : D := .tup [encO r.1, .int (r.2 : Int)]
theorem is_encO (o : Option Sy) (S : Store) : cmpD .Is (encO o) .non S = .ok (.bl o.isNone) S := by
  cases o with
  | none => rfl
  | some x => exact is_non _ S (by cases x <;> exact fun e => nomatch e)
theorem isn_encO (o : Option Sy) (S : Store) : cmpD .IsNot (encO o) .non S = .ok (.bl o.isSome) S := by
  cases o with
  | none => rfl
  | some x => cases x <;> rfl
theorem cl_encO (o : Option Sy) : clD 0 (encO o) = true := by
  cases o with
  | none => rfl
  | some x => exact cl_enc x
theorem cl_resL (r : Rd1) : clD 0 (resL r) = true := by
  unfold resL
  simp [clD, clDs, cl_encO]
section
variable {S : Store} {w a : Nat} {ws nm : List Str}
theorem ix_w (h : cellL S w = some (sD ws)) {j : Nat} (hj : j < ws.length) : ixD (.ref w) (.int (j : Int)) S = .ok (.str (wd ws j)) S := by
  rw [ix_c _ h, at_nat (show j < (sD ws).length by simpa using hj)]
  simp [wd, hj]
theorem lt_w (j : Nat) : decide ((j : Int) < ((sD ws).length : Int)) = decide (j < ws.length) := by
  simp
theorem ge_w (j : Nat) : decide (((sD ws).length : Int) ≤ (j : Int)) = decide (ws.length ≤ j) := by
  simp
theorem wd_off {j : Nat} (h : ¬ j < ws.length) : wd ws j = "" := by simp [wd, h]
/-- at < len(words) and words[at] == x -/
theorem w_is (h : cellL S w = some (sD ws)) (j : Nat) (x : Str) (hx : x ≠ "") : (andB ((((Res.ok (.int (j : Int)) S).bind fun d1 S1 => ((consR (Res.ok (.ref w) S1) fun S2 => Res.ok [] S2).bind lenD).bind fun d3 S3 => cmpD .Lt d1 d3 S3)).bind asB) fun S1 => (((Res.ok (.ref w) S1).bind fun d1 S1 => (Res.ok (.int (j : Int)) S1).bind fun d2 S2 => ixD d1 d2 S2).bind fun d1 S1 => (Res.ok (D.str x) S1).bind fun d2 S2 => cmpD .Eq d1 d2 S2).bind asB) = .ok (decide (wd ws j = x)) S := by
  simp -implicitDefEqProofs only [bind_ok, consR, len_c h, lt_int, asB_bl, lt_w, andB]
  by_cases hj : j < ws.length
  · simp -implicitDefEqProofs only [hj, decide_true, if_true, bind_ok, ix_w h hj, eq_str, asB_bl]
  · have e : ¬ ("" : Str) = x := fun e => hx e.symm
    simp -implicitDefEqProofs only [hj, decide_false, Bool.false_eq_true, if_false, wd_off hj, e]
theorem tups_2 (i k : Nat) (x y : D) (ρ : EnvD) (S : Store) : tupS [i, k] (.tup [x, y]) ρ S = .ok (.next ((ρ.set i (some x)).set k (some y))) S := rfl
/-- what the law's reader of one must be -/
def LawOk (f : List D → Store → Res D) (a w : Nat) (deep : Int) (nm ws : List Str) (one : Nat → Rd1) : Prop := ∀ (S : Store) (j : Nat), cellL S a = some (sD nm) → cellL S w = some (sD ws) → f [.ref a, .ref w, .int (j : Int), .int deep] S = .ok (resL (one j)) S
def loopO (ws : List Str) (wo : Str) (one : Nat → Rd1) (f : Nat) (r : Rd1) : Rd1 := match r with
  | (some x, j) => loopP ws wo one f x j
  | (none, j) => (none, j)
theorem loopO_chain (ws : List Str) (wo : Str) (one : Nat → Rd1) (j : Nat) : loopO ws wo one ws.length (one j) = chain ws wo one j := by
  unfold loopO chain
  cases one j with
  | mk o i => cases o <;> rfl
theorem law_loop (wo : Str) (one : Nat → Rd1) (b : EvS) (all : List D) (S : Store) (ρ : D → D → Option D → Option D → EnvD)
    (ht : ∀ f i t u x, List.set (ρ f i t u) 5 (some x) = ρ f i (some x) u)
    (hb : ∀ (o : Option Sy) (j : Nat) (t : D) (u : Option D), ∃ u', b (ρ (encO o) (.int (j : Int)) (some t) u) S = (match loopO ws wo one 1 (o, j) with
      | (o2, j2) => .ok (.next (ρ (encO o2) (.int (j2 : Int)) (some t) u')) S)) : ∀ (xs : List D) (r : Rd1) (t u : Option D), ∃ t' u',
    forE (fun x r => some (List.set r 5 (some x))) b .still all xs (ρ (encO r.1) (.int (r.2 : Int)) t u) S = .ok (.next (ρ (encO (loopO ws wo one xs.length r).1) (.int ((loopO ws wo one xs.length r).2 : Int)) t' u')) S
  | [], (none, j), t, u => ⟨t, u, forE_nil ..⟩
  | [], (some x, j), t, u => ⟨t, u, forE_nil ..⟩
  | x :: xs, (o, j), t, u => by
    obtain ⟨u1, h1⟩ := hb o j x u
    obtain ⟨t2, u2, h2⟩ := law_loop wo one b all S ρ ht hb xs (loopO ws wo one 1 (o, j)) (some x) u1
    refine ⟨t2, u2, ?_⟩
    rw [forE_cons]
    simp -implicitDefEqProofs only [ht, h1, bind_ok]
    rw [h2]
    have e : loopO ws wo one xs.length (loopO ws wo one 1 (o, j)) = loopO ws wo one (x :: xs).length (o, j) := by
      cases o with
      | none => rfl
      | some y =>
        show loopO ws wo one xs.length (loopP ws wo one 1 y j) = loopP ws wo one (xs.length + 1) y j
        unfold loopP
        by_cases c : wd ws j = wo
        · rw [if_pos c, if_pos c]
          cases one (j + 1) with
          | mk o i => cases o <;> rfl
        · rw [if_neg c, if_neg c]
          unfold loopO
          cases xs with
          | nil => rfl
          | cons z zs => show loopP ws wo one (zs.length + 1) y j = _; unfold loopP; rw [if_neg c]
    rw [e]
end
end T80

set_option linter.all false
set_option maxRecDepth 100000
set_option maxHeartbeats 4000000
namespace T80
open PySem (Str)
open E
theorem is_nn (S : Store) : cmpD .Is .non .non S = .ok (.bl true) S := rfl
section
variable {a w : Nat} {ws nm : List Str}
theorem law_and (n : Nat) (deep : Int) (one : Nat → Rd1) (hl : ws.length < 2000) (ho : LawOk (d__law_read_one.sem (pg.tab (n + 1))) a w deep nm ws one) :
    LawOk (d__law_read_and.sem (pg.tab (n + 2))) a w deep nm ws (chain ws "and" one) := by
  intro S j ha hw
  rw [_law_read_and_sem, _law_read_and_b0_0_eq]
  have hb : ∀ (o : Option Sy) (i : Nat) (t : D) (u : Option D), ∃ u', _law_read_and_b1_0 n [some (.ref a), some (.ref w), some (.int (i : Int)), some (.int deep), some (encO o), some t, u] S = (match loopO ws "and" one 1 (o, i) with
      | (o2, j2) => .ok (.next [some (.ref a), some (.ref w), some (.int (j2 : Int)), some (.int deep), some (encO o2), some t, u']) S) := fun o i t u => by
    have a1 : ((i : Int) + 1) = ((i + 1 : Nat) : Int) := rfl
    cases o with
    | none =>
      refine ⟨u, ?_⟩
      rw [_law_read_and_b1_0_eq]
      simp -implicitDefEqProofs only [get_at, get_up, bind_ok, isn_encO, asB_bl, Option.isSome_none, andB, Bool.false_eq_true, if_false, seq_next, _law_read_and_b1_1, loopO]
    | some x =>
      have wi := w_is hw i "and" (by decide +kernel)
      simp -implicitDefEqProofs only [bind_ok, consR] at wi
      by_cases c : wd ws i = "and"
      · cases hr : one (i + 1) with
        | mk o2 j2 =>
          have hone := ho S (i + 1) ha hw
          rw [hr] at hone
          refine ⟨some (encO o2), ?_⟩
          rw [_law_read_and_b1_0_eq]
          simp -implicitDefEqProofs only [get_at, get_up, bind_ok, isn_encO, asB_bl, Option.isSome_some, if_true, consR]
          unfold andB at wi ⊢
          simp -implicitDefEqProofs only [bind_ok, if_true, wi, c, decide_true, _law_read_and_b2_0_eq, get_at, get_up, consR, add_int, a1, hone, resL, tups_2, List.set_cons_succ, List.set_cons_zero, seq_next, _law_read_and_b2_1_eq, is_encO, asB_bl, loopO, loopP, hr]
          cases o2 with
          | none => simp -implicitDefEqProofs only [Option.isNone_none, if_true, bind_ok, List.set_cons_succ, List.set_cons_zero, seq_next, _law_read_and_b2_2, _law_read_and_b1_1, encO]
          | some y => simp -implicitDefEqProofs only [Option.isNone_some, Bool.false_eq_true, if_false, bind_ok, tup3, List.set_cons_succ, List.set_cons_zero, seq_next, _law_read_and_b2_2, _law_read_and_b1_1, encO, enc]
      · refine ⟨u, ?_⟩
        rw [_law_read_and_b1_0_eq]
        simp -implicitDefEqProofs only [get_at, get_up, bind_ok, isn_encO, asB_bl, Option.isSome_some, if_true, consR]
        unfold andB at wi ⊢
        simp -implicitDefEqProofs only [bind_ok, if_true, wi, c, decide_false, Bool.false_eq_true, if_false, seq_next, _law_read_and_b1_1, loopO, loopP]
  obtain ⟨t', u', e⟩ := law_loop (ws := ws) "and" one (_law_read_and_b1_0 n) (rngD 0 ws.length) S (fun f i t u => [some (.ref a), some (.ref w), some i, some (.int deep), some f, t, u]) (fun _ _ _ _ _ => rfl) hb (rngD 0 ws.length) (one j) none none
  rw [rngD_len, loopO_chain] at e
  have hlen : lenD [.ref w] S = .ok (.int (ws.length : Int)) S := by rw [len_c hw]; simp
  simp -implicitDefEqProofs only [get_at, get_up, bind_ok, consR, ho S j ha hw, resL, tups_2, List.set_cons_succ, List.set_cons_zero, seq_next, _law_read_and_b0_1_eq, hlen, rng_1 ws.length S (by omega), e, _law_read_and_b0_2_eq, tup2, seq_ret]
  exact cut_same (cl_resL (chain ws "and" one j))
theorem law_or (n : Nat) (deep : Int) (one : Nat → Rd1) (hl : ws.length < 2000) (ho : LawOk (d__law_read_and.sem (pg.tab (n + 1))) a w deep nm ws one) :
    LawOk (d__law_read_or.sem (pg.tab (n + 2))) a w deep nm ws (chain ws "or" one) := by
  intro S j ha hw
  rw [_law_read_or_sem, _law_read_or_b0_0_eq]
  have hb : ∀ (o : Option Sy) (i : Nat) (t : D) (u : Option D), ∃ u', _law_read_or_b1_0 n [some (.ref a), some (.ref w), some (.int (i : Int)), some (.int deep), some (encO o), some t, u] S = (match loopO ws "or" one 1 (o, i) with
      | (o2, j2) => .ok (.next [some (.ref a), some (.ref w), some (.int (j2 : Int)), some (.int deep), some (encO o2), some t, u']) S) := fun o i t u => by
    have a1 : ((i : Int) + 1) = ((i + 1 : Nat) : Int) := rfl
    cases o with
    | none =>
      refine ⟨u, ?_⟩
      rw [_law_read_or_b1_0_eq]
      simp -implicitDefEqProofs only [get_at, get_up, bind_ok, isn_encO, asB_bl, Option.isSome_none, andB, Bool.false_eq_true, if_false, seq_next, _law_read_or_b1_1, loopO]
    | some x =>
      have wi := w_is hw i "or" (by decide +kernel)
      simp -implicitDefEqProofs only [bind_ok, consR] at wi
      by_cases c : wd ws i = "or"
      · cases hr : one (i + 1) with
        | mk o2 j2 =>
          have hone := ho S (i + 1) ha hw
          rw [hr] at hone
          refine ⟨some (encO o2), ?_⟩
          rw [_law_read_or_b1_0_eq]
          simp -implicitDefEqProofs only [get_at, get_up, bind_ok, isn_encO, asB_bl, Option.isSome_some, if_true, consR]
          unfold andB at wi ⊢
          simp -implicitDefEqProofs only [bind_ok, if_true, wi, c, decide_true, _law_read_or_b2_0_eq, get_at, get_up, consR, add_int, a1, hone, resL, tups_2, List.set_cons_succ, List.set_cons_zero, seq_next, _law_read_or_b2_1_eq, is_encO, asB_bl, loopO, loopP, hr]
          cases o2 with
          | none => simp -implicitDefEqProofs only [Option.isNone_none, if_true, bind_ok, List.set_cons_succ, List.set_cons_zero, seq_next, _law_read_or_b2_2, _law_read_or_b1_1, encO]
          | some y => simp -implicitDefEqProofs only [Option.isNone_some, Bool.false_eq_true, if_false, bind_ok, tup3, List.set_cons_succ, List.set_cons_zero, seq_next, _law_read_or_b2_2, _law_read_or_b1_1, encO, enc]
      · refine ⟨u, ?_⟩
        rw [_law_read_or_b1_0_eq]
        simp -implicitDefEqProofs only [get_at, get_up, bind_ok, isn_encO, asB_bl, Option.isSome_some, if_true, consR]
        unfold andB at wi ⊢
        simp -implicitDefEqProofs only [bind_ok, if_true, wi, c, decide_false, Bool.false_eq_true, if_false, seq_next, _law_read_or_b1_1, loopO, loopP]
  obtain ⟨t', u', e⟩ := law_loop (ws := ws) "or" one (_law_read_or_b1_0 n) (rngD 0 ws.length) S (fun f i t u => [some (.ref a), some (.ref w), some i, some (.int deep), some f, t, u]) (fun _ _ _ _ _ => rfl) hb (rngD 0 ws.length) (one j) none none
  rw [rngD_len, loopO_chain] at e
  have hlen : lenD [.ref w] S = .ok (.int (ws.length : Int)) S := by rw [len_c hw]; simp
  simp -implicitDefEqProofs only [get_at, get_up, bind_ok, consR, ho S j ha hw, resL, tups_2, List.set_cons_succ, List.set_cons_zero, seq_next, _law_read_or_b0_1_eq, hlen, rng_1 ws.length S (by omega), e, _law_read_or_b0_2_eq, tup2, seq_ret]
  exact cut_same (cl_resL (chain ws "or" one j))
/-- the law's reader of one -/
theorem law_one (hl : ws.length < 2000) (he : ("" : Str) ∉ nm) : ∀ (k n : Nat), k ≤ 40 → LawOk (d__law_read_one.sem (pg.tab (n + 3 * k + 2))) a w (40 - (k : Int)) nm ws (pOne nm ws k)
  | 0, n, hk => by
    intro S j ha hw
    rw [show n + 3 * 0 + 2 = n + 2 by omega, _law_read_one_sem, _law_read_one_b0_0_eq]
    have fin : ∀ r, r = .ok (.ret (resL (none, j))) S → outR .cut S r = .ok (resL (none, j)) S := fun r hr => by subst hr; exact cut_same (cl_resL _)
    refine fin _ ?_
    have e : (39 : Int) < 40 - ((0 : Nat) : Int) := by omega
    simp -implicitDefEqProofs only [get_at, get_up, bind_ok, consR, len_c hw, lt_int, asB_bl, lt_w]
    by_cases hj : j < ws.length
    · simp -implicitDefEqProofs only [hj, decide_true, if_true, bind_ok, ix_w hw hj, List.set_cons_succ, List.set_cons_zero, seq_next, _law_read_one_b0_1_eq, get_at, get_up, gt_int, e, asB_bl, _law_read_one_b1_0_eq, consR, tup2, seq_ret, resL, encO]
    · simp -implicitDefEqProofs only [hj, decide_false, Bool.false_eq_true, if_false, decide_true, if_true, bind_ok, List.set_cons_succ, List.set_cons_zero, seq_next, _law_read_one_b0_1_eq, get_at, get_up, gt_int, e, asB_bl, _law_read_one_b1_0_eq, consR, tup2, seq_ret, resL, encO]
  | k + 1, n, hk => by
    intro S j ha hw
    have ih := law_one hl he k (n + 2) (by omega)
    have ihA := law_one hl he k n (by omega)
    have or_ := law_or (n + 3 * k + 2) (40 - (k : Int)) _ hl (law_and (n + 3 * k + 1) (40 - (k : Int)) _ hl ihA)
    rw [show n + 3 * (k + 1) + 2 = n + 3 * k + 3 + 2 by omega, _law_read_one_sem, _law_read_one_b0_0_eq]
    have e : ¬ (39 : Int) < 40 - ((k + 1 : Nat) : Int) := by omega
    have e1 : (40 - ((k + 1 : Nat) : Int)) + 1 = 40 - (k : Int) := by omega
    generalize hq : n + 3 * k = q at or_ ihA
    rw [show n + 2 + 3 * k + 2 = q + 4 by omega] at ih
    have ih' : LawOk (d__law_read_one.sem (pg.tab (q + 3 + 1))) a w (40 - (k : Int)) nm ws (pOne nm ws k) := ih
    have or' : LawOk (d__law_read_or.sem (pg.tab (q + 3 + 1))) a w (40 - (k : Int)) nm ws (chain ws "or" (chain ws "and" (pOne nm ws k))) := or_
    have fin : ∀ (r : Res Fl) (z : Rd1), r = .ok (.ret (resL z)) S → outR .cut S r = .ok (resL z) S := fun r z hr => by subst hr; exact cut_same (cl_resL _)
    refine fin _ _ ?_
    have a1 : ((j : Int) + 1) = ((j + 1 : Nat) : Int) := rfl
    have a2 : ((j : Int) + 2) = ((j + 2 : Nat) : Int) := rfl
    have wj : ∀ (f : Bool → D → Store → Res D) , ((if decide (j < ws.length) = true then ixD (.ref w) (.int (j : Int)) S else Res.ok (D.str "") S) : Res D) = .ok (.str (wd ws j)) S := fun _ => by
      by_cases hj : j < ws.length
      · rw [decide_eq_true hj, if_pos rfl, ix_w hw hj]
      · rw [decide_eq_false hj, if_neg (by decide), wd_off hj]
    have wj := wj fun _ _ _ => .fail
    simp -implicitDefEqProofs only [get_at, get_up, bind_ok, consR, len_c hw, lt_int, asB_bl, lt_w, wj, List.set_cons_succ, List.set_cons_zero, seq_next, _law_read_one_b0_1_eq, gt_int, e, decide_false, Bool.false_eq_true, if_false, _law_read_one_b0_2_eq, tup3, in_3]
    unfold pOne
    by_cases c1 : wd ws j = "not" ∨ wd ws j = "some" ∨ wd ws j = "all"
    · cases hr : pOne nm ws k (j + 1) with
      | mk o i =>
        have h1 := ih' S (j + 1) ha hw
        rw [hr] at h1
        simp -implicitDefEqProofs only [c1, decide_true, if_true, _law_read_one_b2_0_eq, get_at, get_up, bind_ok, consR, add_int, a1, e1, h1, resL, tups_2, List.set_cons_succ, List.set_cons_zero, seq_next, _law_read_one_b2_1_eq, is_encO, asB_bl, hr]
        cases o with
        | none => simp -implicitDefEqProofs only [Option.isNone_none, if_true, bind_ok, tup2, seq_ret, encO]
        | some x => simp -implicitDefEqProofs only [Option.isNone_some, Bool.false_eq_true, if_false, bind_ok, tup2, seq_ret, encO, enc]
    simp -implicitDefEqProofs only [c1, decide_false, Bool.false_eq_true, if_false, seq_next, _law_read_one_b0_3_eq, get_at, get_up, bind_ok, eq_str, asB_bl]
    by_cases c2 : wd ws j = "at"
    · simp -implicitDefEqProofs only [c2, decide_true, if_true, _law_read_one_b3_0_eq, get_at, get_up, bind_ok, consR, add_int, a1, len_c hw, ge_int, ge_w, asB_bl, orB]
      by_cases hj : j + 1 < ws.length
      · have hj' : ¬ ws.length ≤ j + 1 := by omega
        simp -implicitDefEqProofs only [hj', decide_false, Bool.false_eq_true, if_false, ix_w hw hj, bind_ok, tup2, nin_2, asB_bl]
        by_cases c3 : wd ws (j + 1) = "1" ∨ wd ws (j + 1) = "2"
        · cases hr : pOne nm ws k (j + 2) with
          | mk o i =>
            have h1 := ih' S (j + 2) ha hw
            rw [hr] at h1
            simp -implicitDefEqProofs only [c3, decide_true, Bool.not_true, Bool.false_eq_true, if_false, if_true, seq_next, _law_read_one_b3_1_eq, get_at, get_up, bind_ok, consR, add_int, a1, ix_w hw hj, int_12 c3, List.set_cons_succ, List.set_cons_zero, _law_read_one_b3_2_eq, a2, e1, h1, resL, tups_2, _law_read_one_b3_3_eq, is_encO, asB_bl]
            cases o with
            | none => simp -implicitDefEqProofs only [Option.isNone_none, if_true, bind_ok, tup2, seq_ret, encO]
            | some x => simp -implicitDefEqProofs only [Option.isNone_some, Bool.false_eq_true, if_false, bind_ok, tup2, tup3, seq_ret, encO, enc]
        · simp -implicitDefEqProofs only [c3, decide_false, Bool.not_false, if_true, if_false, _law_read_one_b4_0_eq, get_at, get_up, bind_ok, consR, add_int, a1, tup2, seq_ret, resL, encO]
      · have hj' : ws.length ≤ j + 1 := by omega
        have c3 : ¬ (wd ws (j + 1) = "1" ∨ wd ws (j + 1) = "2") := by
          rw [wd_off hj]
          rintro (h | h)
          · exact absurd h (by decide +kernel)
          · exact absurd h (by decide +kernel)
        simp -implicitDefEqProofs only [hj', decide_true, c3, if_true, if_false, _law_read_one_b4_0_eq, get_at, get_up, bind_ok, consR, add_int, a1, tup2, seq_ret, resL, encO]
    simp -implicitDefEqProofs only [c2, decide_false, Bool.false_eq_true, if_false, seq_next, _law_read_one_b0_4_eq, get_at, get_up, bind_ok, eq_str, asB_bl]
    by_cases c4 : wd ws j = "("
    · cases hr : chain ws "or" (chain ws "and" (pOne nm ws k)) (j + 1) with
      | mk o i =>
        have h1 := or' S (j + 1) ha hw
        rw [hr] at h1
        have wi := w_is hw i ")" (by decide +kernel)
        simp -implicitDefEqProofs only [bind_ok, consR] at wi
        have b1 : ((i : Int) + 1) = ((i + 1 : Nat) : Int) := rfl
        simp -implicitDefEqProofs only [c4, decide_true, if_true, _law_read_one_b5_0_eq, get_at, get_up, bind_ok, consR, add_int, a1, e1, h1, resL, tups_2, List.set_cons_succ, List.set_cons_zero, seq_next, _law_read_one_b5_1_eq, is_encO, asB_bl, orB]
        cases o with
        | none => simp -implicitDefEqProofs only [Option.isNone_none, if_true, _law_read_one_b6_0_eq, get_at, get_up, bind_ok, consR, is_nn, asB_bl, if_true, tup2, seq_ret, encO]
        | some x =>
          simp -implicitDefEqProofs only [Option.isNone_some, Bool.false_eq_true, if_false, wi, bind_ok]
          by_cases c5 : wd ws i = ")"
          · simp -implicitDefEqProofs only [c5, decide_true, if_true, _law_read_one_b6_0_eq, get_at, get_up, bind_ok, consR, is_encO, asB_bl, Option.isNone_some, Bool.false_eq_true, if_false, add_int, b1, tup2, seq_ret]
          · simp -implicitDefEqProofs only [c5, decide_false, Bool.false_eq_true, if_false, seq_next, _law_read_one_b5_2_eq, get_at, get_up, bind_ok, consR, tup2, seq_ret, encO]
    simp -implicitDefEqProofs only [c4, decide_false, Bool.false_eq_true, if_false, seq_next, _law_read_one_b0_5_eq, get_at, get_up, bind_ok, ne_str, asB_bl]
    by_cases c6 : wd ws j = "is"
    · simp -implicitDefEqProofs only [c6, decide_true, Bool.not_true, Bool.false_eq_true, if_false, if_true, seq_next, _law_read_one_b0_6_eq, get_at, get_up, bind_ok, consR, add_int, a1, len_c hw, ge_int, ge_w, asB_bl, orB]
      by_cases hj : j + 1 < ws.length
      · have hj' : ¬ ws.length ≤ j + 1 := by omega
        simp -implicitDefEqProofs only [hj', decide_false, Bool.false_eq_true, if_false, ix_w hw hj, bind_ok, nin_c _ _ _ _ ha, asB_bl]
        by_cases c7 : wd ws (j + 1) ∈ nm
        · simp -implicitDefEqProofs only [c7, decide_true, Bool.not_true, Bool.false_eq_true, if_false, if_true, seq_next, _law_read_one_b0_7_eq, get_at, get_up, bind_ok, consR, add_int, a1, a2, ix_w hw hj, tup2, seq_ret, resL, encO, enc]
        · simp -implicitDefEqProofs only [c7, decide_false, Bool.not_false, if_true, if_false, _law_read_one_b8_0_eq, get_at, get_up, bind_ok, consR, add_int, a1, tup2, seq_ret, resL, encO]
      · have hj' : ws.length ≤ j + 1 := by omega
        have c7 : ¬ wd ws (j + 1) ∈ nm := by rw [wd_off hj]; exact he
        simp -implicitDefEqProofs only [hj', decide_true, c7, if_true, if_false, _law_read_one_b8_0_eq, get_at, get_up, bind_ok, consR, add_int, a1, tup2, seq_ret, resL, encO]
    · simp -implicitDefEqProofs only [c6, decide_false, Bool.not_false, if_true, if_false, _law_read_one_b7_0_eq, get_at, get_up, bind_ok, consR, tup2, seq_ret, resL, encO]
end
end T80

set_option linter.all false
set_option maxRecDepth 100000
set_option maxHeartbeats 4000000
namespace T80
open PySem (Str)
open E
/-- a thing is the same as itself -/
theorem mH_same : ∀ (d : Nat) (a : D), plainD a = true → dpt a ≤ d → ∀ (n : Nat) (S : Store), d__law_same.semH (pg.tab (n + d + 2)) [a, a] S = .ok (.bl true) S := by
  intro d
  induction d with
  | zero =>
    intro a hp hd n S
    rw [H_law_same_sem, H_law_same_b0_0_eq]
    cases a with
    | int i =>
      obtain ⟨t1, t2⟩ := ty_i i S
      simp -implicitDefEqProofs only [get_at, get_up, bind_ok, t1, t2, truR, tru_ok, orB, Bool.false_eq_true, if_false, seq_next, H_law_same_b0_1_eq, is_non (.int i) S (fun e => nomatch e), asB_bl, if_true, H_law_same_b2_0_eq, andR, orR, eq_int, decide_true, seq_ret]
      exact cut_same rfl
    | str i =>
      obtain ⟨t1, t2, t3⟩ := ty_s i S
      simp -implicitDefEqProofs only [get_at, get_up, bind_ok, t1, t2, t3, truR, tru_ok, orB, Bool.false_eq_true, if_false, seq_next, H_law_same_b0_1_eq, is_non (.str i) S (fun e => nomatch e), asB_bl, if_true, H_law_same_b0_2_eq, H_law_same_b3_0_eq, andR, eq_str, decide_true, seq_ret]
      exact cut_same rfl
    | tup l => unfold dpt at hd; omega
    | _ => cases hp
  | succ d ih =>
    intro a hp hd n S
    cases a with
    | int i =>
      rw [show n + (d + 1) + 2 = (n + d + 1) + 2 by omega, H_law_same_sem, H_law_same_b0_0_eq]
      obtain ⟨t1, t2⟩ := ty_i i S
      simp -implicitDefEqProofs only [get_at, get_up, bind_ok, t1, t2, truR, tru_ok, orB, Bool.false_eq_true, if_false, seq_next, H_law_same_b0_1_eq, is_non (.int i) S (fun e => nomatch e), asB_bl, if_true, H_law_same_b2_0_eq, andR, orR, eq_int, decide_true, seq_ret]
      exact cut_same rfl
    | str i =>
      rw [show n + (d + 1) + 2 = (n + d + 1) + 2 by omega, H_law_same_sem, H_law_same_b0_0_eq]
      obtain ⟨t1, t2, t3⟩ := ty_s i S
      simp -implicitDefEqProofs only [get_at, get_up, bind_ok, t1, t2, t3, truR, tru_ok, orB, Bool.false_eq_true, if_false, seq_next, H_law_same_b0_1_eq, is_non (.str i) S (fun e => nomatch e), asB_bl, if_true, H_law_same_b0_2_eq, H_law_same_b3_0_eq, andR, eq_str, decide_true, seq_ret]
      exact cut_same rfl
    | tup l =>
      have hp' : (decide (l.length ≤ 100) && plainDs l) = true := hp
      obtain ⟨hs, hpl⟩ := Bool.and_eq_true_iff.mp hp'
      have hs := of_decide_eq_true hs
      have hdl : dpts l ≤ d := by unfold dpt at hd; omega
      rw [show n + (d + 1) + 2 = (n + d + 1) + 2 by omega, H_law_same_sem, H_law_same_b0_0_eq]
      obtain ⟨t1, t2, t3, t4, t5⟩ := ty_t l S
      have hne : ∀ b : Bool, cmpD .NotEq (.bl b) (.bl b) S = .ok (.bl false) S := fun b => by cases b <;> rfl
      obtain ⟨ρ', S', e, hρ, hS⟩ := for_ok (tg := fun x r => some (List.set r 2 (some x))) (b := H_law_same_b6_0 (n + d + 1)) (all := rngD 0 l.length) (fun ρ S' => (∃ a, ρ = [some (.tup l), some (.tup l), a]) ∧ S' = S) (rngD 0 l.length) [some (.tup l), some (.tup l), none] S
        (fun x hx ρ S' ⟨⟨a, e1⟩, e2⟩ => by
          subst e1; subst e2
          obtain ⟨j, hj, rfl⟩ := rngD_mem hx
          obtain ⟨g1, g2⟩ := plain_at hj hpl
          have hix : L2.atI l (0 + (j : Int)) = some l[j] := by rw [Int.zero_add]; exact at_nat hj
          refine ⟨_, [some (.tup l), some (.tup l), some (.int (0 + (j : Int)))], S', rfl, ?_, ⟨_, rfl⟩, rfl⟩
          rw [H_law_same_b6_0_eq]
          have hi := ih l[j] g1 (by omega) n S'
          simp -implicitDefEqProofs only [get_at, get_up, bind_ok, consR, ix_t, hix, List.set_cons_succ, List.set_cons_zero, hi, truR, tru_ok, Bool.not_true, Bool.false_eq_true, if_false, seq_next, H_law_same_b6_1]) ⟨⟨_, rfl⟩, rfl⟩
      subst hS
      simp -implicitDefEqProofs only [get_at, get_up, bind_ok, t1, t2, t3, t4, t5, truR, tru_ok, orB, Bool.false_eq_true, if_false, seq_next, H_law_same_b0_1_eq, is_non (.tup l) S' (fun e => nomatch e), asB_bl, H_law_same_b0_2_eq, H_law_same_b0_3_eq, hne, H_law_same_b0_4_eq, consR, len_t, ne_int, decide_true, Bool.not_true,
        H_law_same_b0_5_eq, rng_1 l.length _ (by omega), e, H_law_same_b0_6_eq, seq_ret]
      exact cut_same rfl
    | _ => cases hp
end T80

set_option linter.all false
set_option maxRecDepth 100000
set_option maxHeartbeats 4000000
namespace T80
open PySem (Str)
open E
/-! ### the printed saying's words -/
def parW (b : Bool) (l : List Str) : List Str := if b then ("(" : Str) :: (l ++ [(")" : Str)]) else l
def wds : Sy → List Str
  | .is_ m => ["is", m]
  | .un o x => o :: parW (needP x 2) (wds x)
  | .at_ k x => "at" :: kS k :: parW (needP x 2) (wds x)
  | .bin o a b => if o = ("or" : Str) then parW (needP a 0) (wds a) ++ (("or" : Str) :: parW (needP b 1) (wds b)) else parW (needP a 1) (wds a) ++ (("and" : Str) :: parW (needP b 2) (wds b))
def Tk (s : Str) (l : List Str) : Prop := ∀ F, flush (toks (F, []) s.cps.toList) = F ++ l
theorem toks_app (p : List Str × List Nat) (a b : List Nat) : toks p (a ++ b) = toks (toks p a) b := List.foldl_append ..
theorem cps_app (a b : Str) : (a ++ b).cps.toList = a.cps.toList ++ b.cps.toList := by
  show (a.cps ++ b.cps).toList = _
  simp
theorem str_assoc (a b c : Str) : (a ++ b) ++ c = a ++ (b ++ c) := by
  cases a; cases b; cases c
  show (⟨(_ ++ _) ++ _⟩ : Str) = ⟨_ ++ (_ ++ _)⟩
  rw [Array.append_assoc]
theorem str_empty (a : Str) : ("" : Str) ++ a = a := by
  cases a with
  | mk c =>
    show (⟨("" : Str).cps ++ c⟩ : Str) = ⟨c⟩
    have : ("" : Str).cps = #[] := by kernel_rfl
    rw [this, Array.empty_append]
theorem str_empty2 (a : Str) : a ++ ("" : Str) = a := by
  cases a with
  | mk c =>
    show (⟨c ++ ("" : Str).cps⟩ : Str) = ⟨c⟩
    have : ("" : Str).cps = #[] := by kernel_rfl
    rw [this, Array.append_empty]
theorem Tk.nil : Tk "" [] := fun F => by
  have : ("" : Str).cps.toList = [] := by kernel_rfl
  rw [this]
  simp [toks, flush]
theorem toks_al : ∀ (cs : List Nat) (F : List Str) (w : List Nat), cs.all al = true → toks (F, w) cs = (F, w ++ cs)
  | [], F, w, _ => by simp [toks]
  | c :: cs, F, w, h => by
    rw [List.all_cons, Bool.and_eq_true] at h
    have e : stp (F, w) c = (F, w ++ [c]) := by
      unfold stp
      rw [if_pos h.1]
    show toks (stp (F, w) c) cs = _
    rw [e, toks_al cs F _ h.2, List.append_assoc]
    rfl
theorem Tk.word {w : Str} (h : w.cps.toList.all al = true) (hn : w.cps.toList.isEmpty = false) : Tk w [w] := fun F => by
  rw [toks_al _ _ _ h]
  unfold flush
  have : ¬ ([] ++ w.cps.toList) = [] := by
    intro e
    rw [List.nil_append] at e
    rw [e] at hn
    cases hn
  rw [if_neg this, List.nil_append]
  cases w with
  | mk c => show _ ++ [(⟨c.toList.toArray⟩ : Str)] = _; simp
def sepL (c : Nat) : List Str := if c = 32 then [] else [mk [c]]
theorem Tk.sep {a b s : Str} {la lb : List Str} {c : Nat} (ha : Tk a la) (hb : Tk b lb) (hs : s.cps.toList = [c]) (hc : al c = false) : Tk ((a ++ s) ++ b) (la ++ (sepL c ++ lb)) := fun F => by
  rw [cps_app, cps_app, hs, toks_app, toks_app]
  have e : toks (toks (F, []) a.cps.toList) [c] = (F ++ la ++ sepL c, []) := by
    show stp _ c = _
    unfold stp
    rw [hc, ha F]
    rfl
  rw [e, hb, List.append_assoc, List.append_assoc]
theorem Tk.sp {a b : Str} {la lb : List Str} (ha : Tk a la) (hb : Tk b lb) : Tk ((a ++ (" " : Str)) ++ b) (la ++ lb) := by
  have := Tk.sep (s := (" " : Str)) (c := 32) ha hb (by kernel_rfl) (by kernel_rfl)
  exact this
theorem Tk.par {s : Str} {l : List Str} (h : Tk s l) : ∀ b, Tk (par b s) (parW b l)
  | false => h
  | true => by
    have h1 := Tk.sep (s := ("(" : Str)) (c := 40) Tk.nil h (by kernel_rfl) (by kernel_rfl)
    have h2 := Tk.sep (s := (")" : Str)) (c := 41) h1 Tk.nil (by kernel_rfl) (by kernel_rfl)
    have e1 : sepL 40 = [("(" : Str)] := by kernel_rfl
    have e2 : sepL 41 = [(")" : Str)] := by kernel_rfl
    rw [str_empty, str_empty2, e1, e2] at h2
    have e3 : ([] ++ ([("(" : Str)] ++ l)) ++ ([(")" : Str)] ++ []) = parW true l := by simp [parW]
    rw [e3] at h2
    exact h2
def Wd (w : Str) : Prop := w.cps.toList.all al = true ∧ w.cps.toList.isEmpty = false
theorem Wd.tk {w : Str} (h : Wd w) : Tk w [w] := Tk.word h.1 h.2
theorem nm_Wd {w : Str} (h : w ∈ NM) : Wd w := by
  have : NM.all (fun w => w.cps.toList.all al && !w.cps.toList.isEmpty) = true := by kernel_rfl
  have := List.all_eq_true.mp this w h
  rw [Bool.and_eq_true] at this
  exact ⟨this.1, by simpa using this.2⟩
theorem un_Wd {o : Str} (h : o = "not" ∨ o = "some" ∨ o = "all") : Wd o := by
  rcases h with rfl | rfl | rfl <;> exact ⟨by kernel_rfl, by kernel_rfl⟩
theorem kS_Wd (k : Int) : Wd (kS k) := by
  unfold kS
  split <;> exact ⟨by kernel_rfl, by kernel_rfl⟩
theorem lits : ("is " : Str) = ("is" : Str) ++ (" " : Str) ∧ ("at " : Str) = ("at" : Str) ++ (" " : Str) ∧ (" or " : Str) = ((" " : Str) ++ ("or" : Str)) ++ (" " : Str) ∧ (" and " : Str) = ((" " : Str) ++ ("and" : Str)) ++ (" " : Str) := ⟨by kernel_rfl, by kernel_rfl, by kernel_rfl, by kernel_rfl⟩
/-- the scanner finds the words -/
theorem tk_txt {N : List Str} (hN : ∀ m ∈ N, m ∈ NM) : ∀ x : Sy, x.good N → Tk (txt x) (wds x)
  | .is_ m, hg => by
    have h1 : Wd "is" := ⟨by kernel_rfl, by kernel_rfl⟩
    have := Tk.sp h1.tk (nm_Wd (hN m hg)).tk
    show Tk (("is " : Str) ++ m) ["is", m]
    rw [lits.1]
    exact this
  | .un o x, ⟨ho, hg⟩ => Tk.sp (un_Wd ho).tk ((tk_txt hN x hg).par (needP x 2))
  | .at_ k x, ⟨_, hg⟩ => by
    have h1 : Wd "at" := ⟨by kernel_rfl, by kernel_rfl⟩
    have h2 := Tk.sp (Tk.sp h1.tk (kS_Wd k).tk) ((tk_txt hN x hg).par (needP x 2))
    show Tk ((("at " : Str) ++ kS k) ++ (" " : Str) ++ T80.par (needP x 2) (txt x)) (wds (.at_ k x))
    rw [lits.2.1]
    exact h2
  | .bin o a b, ⟨ho, ha, hb⟩ => by
    have h1 : Wd "or" := ⟨by kernel_rfl, by kernel_rfl⟩
    have h2 : Wd "and" := ⟨by kernel_rfl, by kernel_rfl⟩
    have ia := tk_txt hN a ha
    have ib := tk_txt hN b hb
    unfold txt wds
    by_cases c : o = ("or" : Str)
    · rw [if_pos c, if_pos c]
      have := Tk.sp (Tk.sp (ia.par (needP a 0)) h1.tk) (ib.par (needP b 1))
      have e : T80.par (needP a 0) (txt a) ++ (" or " : Str) ++ T80.par (needP b 1) (txt b) = T80.par (needP a 0) (txt a) ++ (" " : Str) ++ ("or" : Str) ++ (" " : Str) ++ T80.par (needP b 1) (txt b) := by
        rw [lits.2.2.1]
        simp only [str_assoc]
      rw [e]
      simpa using this
    · rw [if_neg c, if_neg c]
      have := Tk.sp (Tk.sp (ia.par (needP a 1)) h2.tk) (ib.par (needP b 2))
      have e : T80.par (needP a 1) (txt a) ++ (" and " : Str) ++ T80.par (needP b 2) (txt b) = T80.par (needP a 1) (txt a) ++ (" " : Str) ++ ("and" : Str) ++ (" " : Str) ++ T80.par (needP b 2) (txt b) := by
        rw [lits.2.2.2]
        simp only [str_assoc]
      rw [e]
      simpa using this
theorem tok_txt {N : List Str} (hN : ∀ m ∈ N, m ∈ NM) (x : Sy) (h : x.good N) : tok (txt x) = wds x := by
  have := tk_txt hN x h []
  rw [List.nil_append] at this
  exact this
end T80

set_option linter.all false
set_option maxRecDepth 100000
set_option maxHeartbeats 4000000
namespace T80
open PySem (Str)
open E
/-! ### what is printed is read back -/
def Seg (ws : List Str) : Nat → List Str → Prop
  | _, [] => True
  | j, a :: l => wd ws j = a ∧ Seg ws (j + 1) l
theorem Seg.app {ws : List Str} : ∀ {l m : List Str} {j : Nat}, Seg ws j (l ++ m) → Seg ws j l ∧ Seg ws (j + l.length) m
  | [], m, j, h => ⟨trivial, h⟩
  | a :: l, m, j, ⟨h1, h2⟩ => by
    obtain ⟨h3, h4⟩ := Seg.app (l := l) h2
    refine ⟨⟨h1, h3⟩, ?_⟩
    rw [List.length_cons, show j + (l.length + 1) = j + 1 + l.length by omega]
    exact h4
def isBin : Sy → Bool
  | .bin _ _ _ => true
  | _ => false
def isOr : Sy → Bool
  | .bin o _ _ => decide (o = ("or" : Str))
  | _ => false
theorem need_no {x : Sy} (h : isBin x = false) (k : Int) : needP x k = false := by
  cases x <;> first | rfl | cases h
theorem need_bin {o : Str} (ho : o = "and" ∨ o = "or") (a b : Sy) : needP (.bin o a b) 2 = true ∧ needP (.bin o a b) 1 = isOr (.bin o a b) ∧ needP (.bin o a b) 0 = false := by
  rcases ho with rfl | rfl <;> exact ⟨by kernel_rfl, by kernel_rfl, by kernel_rfl⟩
theorem need0 {N : List Str} {x : Sy} (h : x.good N) : needP x 0 = false := by
  cases x with
  | bin o a b => exact (need_bin h.1 a b).2.2
  | _ => rfl
theorem need1 {N : List Str} {x : Sy} (h : x.good N) : needP x 1 = isOr x := by
  cases x with
  | bin o a b => exact (need_bin h.1 a b).2.1
  | _ => rfl
theorem need2 {N : List Str} {x : Sy} (h : x.good N) : needP x 2 = isBin x := by
  cases x with
  | bin o a b => exact (need_bin h.1 a b).1
  | _ => rfl
theorem or_bin {x : Sy} (h : isBin x = false) : isOr x = false := by
  cases x <;> first | rfl | cases h
theorem loop_end {ws : List Str} {wo : Str} {one : Nat → Rd1} {x : Sy} {i : Nat} (h : wd ws i ≠ wo) : ∀ f, loopP ws wo one f x i = (some x, i)
  | 0 => rfl
  | f + 1 => by unfold loopP; rw [if_neg h]
section
variable {nm ws : List Str}
/-- what is read -/
structure Rb (nm ws : List Str) (x : Sy) (d : Nat) : Prop where
  one : isBin x = false → ∀ k j, 2 * d + 1 ≤ k → Seg ws j (wds x) → pOne nm ws k j = (some x, j + (wds x).length)
  and_ : isOr x = false → ∀ k j, 2 * d + 1 ≤ k → Seg ws j (wds x) → ∃ f, ws.length + j ≤ f + (j + (wds x).length) ∧ chain ws "and" (pOne nm ws k) j = loopP ws "and" (pOne nm ws k) f x (j + (wds x).length)
  or_ : ∀ k j, 2 * d + 1 ≤ k → Seg ws j (wds x) → wd ws (j + (wds x).length) ≠ "and" → ∃ f, ws.length + j ≤ f + (j + (wds x).length) ∧ pOr nm ws k j = loopP ws "or" (chain ws "and" (pOne nm ws k)) f x (j + (wds x).length)
theorem ne_ao : ("and" : Str) ≠ "or" ∧ (")" : Str) ≠ "and" ∧ (")" : Str) ≠ "or" ∧ ("or" : Str) ≠ "and" ∧ ("" : Str) ≠ "and" ∧ ("" : Str) ≠ "or" ∧ ("or" : Str) ≠ "" ∧ ("and" : Str) ≠ "" := by
  refine ⟨?_, ?_, ?_, ?_, ?_, ?_, ?_, ?_⟩ <;> decide +kernel
theorem par_len2 (l : List Str) : (parW true l).length = l.length + 2 := by simp [parW]
/-- .. in parentheses -/
theorem Rb.par {x : Sy} {d k j : Nat} (h : Rb nm ws x d) (hk : 2 * d + 2 ≤ k) (hs : Seg ws j (parW true (wds x))) : pOne nm ws k j = (some x, j + (parW true (wds x)).length) := by
  obtain ⟨k, rfl⟩ : ∃ k', k = k' + 1 := ⟨k - 1, by omega⟩
  have hs : wd ws j = "(" ∧ Seg ws (j + 1) (wds x ++ [(")" : Str)]) := hs
  obtain ⟨h1, h2⟩ := hs
  obtain ⟨h3, h4, _⟩ := h2.app
  obtain ⟨f, _, e⟩ := h.or_ k (j + 1) (by omega) h3 (by rw [h4]; exact ne_ao.2.1)
  rw [loop_end (by rw [h4]; exact ne_ao.2.2.1)] at e
  unfold pOr at e
  have c1 : ¬ (wd ws j = "not" ∨ wd ws j = "some" ∨ wd ws j = "all") := by rw [h1]; decide +kernel
  have c2 : ¬ wd ws j = "at" := by rw [h1]; decide +kernel
  unfold pOne
  rw [if_neg c1, if_neg c2, if_pos h1, e]
  show (if wd ws (j + 1 + (wds x).length) = ")" then (some x, j + 1 + (wds x).length + 1) else (none, j + 1 + (wds x).length)) = _
  rw [if_pos h4, par_len2, show j + 1 + (wds x).length + 1 = j + ((wds x).length + 2) by omega]
theorem Rb.two {N : List Str} {x : Sy} {d k j : Nat} (h : Rb nm ws x d) (hg : x.good N) (hk : 2 * d + 2 ≤ k) (hs : Seg ws j (parW (needP x 2) (wds x))) : pOne nm ws k j = (some x, j + (parW (needP x 2) (wds x)).length) := by
  rw [need2 hg] at hs ⊢
  cases hb : isBin x with
  | true => rw [hb] at hs; exact h.par hk hs
  | false => rw [hb] at hs; exact h.one hb k j (by omega) hs
theorem chain_one {wo : Str} {one : Nat → Rd1} {x : Sy} {j i : Nat} (h : one j = (some x, i)) : chain ws wo one j = loopP ws wo one ws.length x i := by
  unfold chain
  rw [h]
theorem Rb.fst {N : List Str} {x : Sy} {d k j : Nat} (h : Rb nm ws x d) (hg : x.good N) (hk : 2 * d + 2 ≤ k) (hs : Seg ws j (parW (needP x 1) (wds x))) : ∃ f, ws.length + j ≤ f + (j + (parW (needP x 1) (wds x)).length) ∧ chain ws "and" (pOne nm ws k) j = loopP ws "and" (pOne nm ws k) f x (j + (parW (needP x 1) (wds x)).length) := by
  rw [need1 hg] at hs ⊢
  cases hb : isOr x with
  | true => rw [hb] at hs; exact ⟨ws.length, by omega, chain_one (h.par hk hs)⟩
  | false => rw [hb] at hs; exact h.and_ hb k j (by omega) hs
theorem loop_step {wo : Str} {one : Nat → Rd1} {x y : Sy} {j i f : Nat} (h : wd ws j = wo) (hf : 1 ≤ f) (h1 : one (j + 1) = (some y, i)) : loopP ws wo one f x j = loopP ws wo one (f - 1) (.bin wo x y) i := by
  obtain ⟨f, rfl⟩ : ∃ f', f = f' + 1 := ⟨f - 1, by omega⟩
  conv => lhs; unfold loopP
  rw [if_pos h, h1]
  rfl
theorem rb : ∀ (d : Nat) (x : Sy), x.good nm → x.depth ≤ d → Rb nm ws x d := by
  intro d
  induction d with
  | zero =>
    intro x hg hd
    cases x with
    | is_ m =>
      have one : ∀ k j, 2 * 0 + 1 ≤ k → Seg ws j (wds (.is_ m)) → pOne nm ws k j = (some (.is_ m), j + (wds (.is_ m)).length) := fun k j hk hs => by
        obtain ⟨k, rfl⟩ : ∃ k', k = k' + 1 := ⟨k - 1, by omega⟩
        obtain ⟨h1, h2, _⟩ := (hs : wd ws j = "is" ∧ wd ws (j + 1) = m ∧ True)
        have c1 : ¬ (wd ws j = "not" ∨ wd ws j = "some" ∨ wd ws j = "all") := by rw [h1]; decide +kernel
        have c2 : ¬ wd ws j = "at" := by rw [h1]; decide +kernel
        have c3 : ¬ wd ws j = "(" := by rw [h1]; decide +kernel
        unfold pOne
        rw [if_neg c1, if_neg c2, if_neg c3, if_pos h1, h2, if_pos (show m ∈ nm from hg)]
        rfl
      have and_ : ∀ k j, 2 * 0 + 1 ≤ k → Seg ws j (wds (.is_ m)) → chain ws "and" (pOne nm ws k) j = loopP ws "and" (pOne nm ws k) ws.length (.is_ m) (j + (wds (.is_ m)).length) := fun k j hk hs => chain_one (one k j hk hs)
      exact ⟨fun _ => one, fun _ k j hk hs => ⟨ws.length, by omega, and_ k j hk hs⟩, fun k j hk hs hn => ⟨ws.length, by omega, chain_one (by rw [and_ k j hk hs, loop_end hn])⟩⟩
    | un o x => simp [Sy.depth] at hd
    | at_ k x => simp [Sy.depth] at hd
    | bin o a b => simp [Sy.depth] at hd
  | succ d ih =>
    intro x hg hd
    -- from one to the chains
    have up : isBin x = false → (∀ k j, 2 * (d + 1) + 1 ≤ k → Seg ws j (wds x) → pOne nm ws k j = (some x, j + (wds x).length)) → Rb nm ws x (d + 1) := fun hb one =>
      ⟨fun _ => one, fun _ k j hk hs => ⟨ws.length, by omega, chain_one (one k j hk hs)⟩, fun k j hk hs hn => ⟨ws.length, by omega, chain_one (by rw [chain_one (one k j hk hs), loop_end hn])⟩⟩
    cases x with
    | is_ m =>
      have h0 := ih (.is_ m) hg (by simp [Sy.depth])
      exact up rfl fun k j hk hs => h0.one rfl k j (by omega) hs
    | un o x =>
      obtain ⟨ho, hx⟩ := hg
      have h0 := ih x hx (by simp only [Sy.depth] at hd; omega)
      refine up rfl fun k j hk hs => ?_
      obtain ⟨k, rfl⟩ : ∃ k', k = k' + 1 := ⟨k - 1, by omega⟩
      obtain ⟨h1, h2⟩ := (hs : wd ws j = o ∧ Seg ws (j + 1) (parW (needP x 2) (wds x)))
      have e := h0.two hx (k := k) (by omega) h2
      have c1 : wd ws j = "not" ∨ wd ws j = "some" ∨ wd ws j = "all" := by rw [h1]; exact ho
      unfold pOne
      rw [if_pos c1, e, h1]
      show (some (Sy.un o x), _) = (some (Sy.un o x), j + (o :: parW (needP x 2) (wds x)).length)
      rw [List.length_cons, show j + 1 + (parW (needP x 2) (wds x)).length = j + ((parW (needP x 2) (wds x)).length + 1) by omega]
    | at_ k0 x =>
      obtain ⟨hk0, hx⟩ := hg
      have h0 := ih x hx (by simp only [Sy.depth] at hd; omega)
      refine up rfl fun k j hk hs => ?_
      obtain ⟨k, rfl⟩ : ∃ k', k = k' + 1 := ⟨k - 1, by omega⟩
      obtain ⟨h1, h3, h2⟩ := (hs : wd ws j = "at" ∧ wd ws (j + 1) = kS k0 ∧ Seg ws (j + 2) (parW (needP x 2) (wds x)))
      have e := h0.two hx (k := k) (by omega) h2
      have c1 : ¬ (wd ws j = "not" ∨ wd ws j = "some" ∨ wd ws j = "all") := by rw [h1]; decide +kernel
      have c2 : wd ws (j + 1) = "1" ∨ wd ws (j + 1) = "2" := by
        rw [h3]
        unfold kS
        split
        · exact .inl rfl
        · exact .inr rfl
      have c3 : (if wd ws (j + 1) = "1" then (1 : Int) else 2) = k0 := by
        rw [h3]
        rcases hk0 with rfl | rfl
        · rfl
        · exact if_neg (by decide +kernel)
      unfold pOne
      rw [if_neg c1, if_pos h1, if_pos c2, e, c3]
      show (some (Sy.at_ k0 x), _) = (some (Sy.at_ k0 x), j + (("at" : Str) :: kS k0 :: parW (needP x 2) (wds x)).length)
      rw [List.length_cons, List.length_cons, show j + 2 + (parW (needP x 2) (wds x)).length = j + ((parW (needP x 2) (wds x)).length + 1 + 1) by omega]
    | bin o a b =>
      obtain ⟨ho, ha, hb⟩ := hg
      have h1 := ih a ha (by simp only [Sy.depth] at hd; omega)
      have h2 := ih b hb (by simp only [Sy.depth] at hd; omega)
      rcases ho with rfl | rfl
      · -- and
        have ew : wds (.bin "and" a b) = parW (needP a 1) (wds a) ++ (("and" : Str) :: parW (needP b 2) (wds b)) := by
          show (if ("and" : Str) = "or" then _ else _) = _
          rw [if_neg ne_ao.1]
        have and_ : ∀ k j, 2 * (d + 1) + 1 ≤ k → Seg ws j (wds (.bin "and" a b)) → ∃ f, ws.length + j ≤ f + (j + (wds (.bin "and" a b)).length) ∧ chain ws "and" (pOne nm ws k) j = loopP ws "and" (pOne nm ws k) f (.bin "and" a b) (j + (wds (.bin "and" a b)).length) := fun k j hk hs => by
          rw [ew] at hs
          obtain ⟨s1, s2, s3⟩ := hs.app
          obtain ⟨f, hf, e⟩ := h1.fst ha (k := k) (by omega) s1
          have e2 := h2.two hb (k := k) (by omega) s3
          have hm := wd_lt (s2.symm ▸ ne_ao.2.2.2.2.2.2.2 : wd ws (j + (parW (needP a 1) (wds a)).length) ≠ "")
          rw [loop_step s2 (by omega) e2] at e
          have el : j + (wds (.bin "and" a b)).length = j + (parW (needP a 1) (wds a)).length + 1 + (parW (needP b 2) (wds b)).length := by
            rw [ew, List.length_append, List.length_cons]; omega
          exact ⟨f - 1, by omega, by rw [el]; exact e⟩
        refine ⟨fun h => (nomatch h), fun _ => and_, fun k j hk hs hn => ?_⟩
        obtain ⟨f, hf, e⟩ := and_ k j hk hs
        rw [loop_end hn] at e
        exact ⟨ws.length, by omega, chain_one e⟩
      · -- or
        have ew : wds (.bin "or" a b) = wds a ++ (("or" : Str) :: parW (needP b 1) (wds b)) := by
          show (if ("or" : Str) = "or" then _ else _) = _
          rw [if_pos rfl, need0 ha]
          rfl
        refine ⟨fun h => (nomatch h), fun h => absurd h (by show ¬ decide (("or" : Str) = "or") = false; simp), fun k j hk hs hn => ?_⟩
        have el : j + (wds (.bin "or" a b)).length = j + (wds a).length + 1 + (parW (needP b 1) (wds b)).length := by
          rw [ew, List.length_append, List.length_cons]; omega
        rw [ew] at hs
        obtain ⟨s1, s2, s3⟩ := hs.app
        obtain ⟨f, hf, e⟩ := h1.or_ k j (by omega) s1 (by rw [s2]; exact ne_ao.2.2.2.1)
        obtain ⟨f2, _, e2⟩ := h2.fst hb (k := k) (by omega) s3
        rw [el] at hn
        rw [loop_end hn] at e2
        have hm := wd_lt (s2.symm ▸ ne_ao.2.2.2.2.2.2.1 : wd ws (j + (wds a).length) ≠ "")
        rw [loop_step s2 (by omega) e2] at e
        exact ⟨f - 1, by omega, by rw [el]; exact e⟩
theorem seg_self : ∀ (pre l : List Str), Seg (pre ++ l) pre.length l
  | pre, [] => trivial
  | pre, a :: l => by
    refine ⟨by simp [wd], ?_⟩
    have := seg_self (pre ++ [a]) l
    rw [List.append_assoc] at this
    simpa using this
/-- a printed saying is read back -/
theorem read_back (x : Sy) (hg : x.good nm) (hd : x.depth ≤ 4) : pOr nm (wds x) 40 0 = (some x, (wds x).length) := by
  have hs : Seg (wds x) 0 (wds x) := seg_self [] (wds x)
  have h := rb (nm := nm) (ws := wds x) 4 x hg hd
  have w0 : wd (wds x) (0 + (wds x).length) = "" := by rw [Nat.zero_add]; simp [wd]
  obtain ⟨f, _, e⟩ := h.or_ 40 0 (by omega) hs (by rw [w0]; exact ne_ao.2.2.2.2.1)
  rw [loop_end (by rw [w0]; exact ne_ao.2.2.2.2.2.1)] at e
  rw [e, Nat.zero_add]
end
end T80

set_option linter.all false
set_option maxRecDepth 100000
set_option maxHeartbeats 4000000
namespace T80
open PySem (Str)
open E
/-! ### read_saying -/
theorem m_init (n : Nat) (S : Store) (w : Nat) (hw : w < S.length) : makeE (d_Words___init__.sem (pg.tab (n + 2))) "Words" [.int 0, .ref w] S = .ok (.ref S.length) (S ++ [Wo w 0]) := by
  have pt : ∀ (f : Str) (x : D) (fs : List (Str × D)) (ρ : EnvD), memIn [("Words", ["line", "words", "at"])] "Words" f = true → fs.length < 1000 → putR (pg.tab (n + 2)) f (.ref S.length) x ρ (S ++ [some (.ins "Words" fs)]) = .ok (.next ρ) (S ++ [some (.ins "Words" (putD f x fs))]) := fun f x fs ρ hf hl => by
    have e : putE (pg.tab (n + 2)) f (.ref S.length) x (S ++ [some (.ins "Words" fs)]) = some (S ++ [some (.ins "Words" (putD f x fs))]) := by
      have hc : cellI (S ++ [some (.ins "Words" fs)]) S.length = some (("Words" : Str), fs) := by
        unfold cellI
        rw [List.getElem?_append_right (Nat.le_refl _), Nat.sub_self]
        rfl
      show (match cellI (S ++ [some (.ins "Words" fs)]) S.length with
        | some (C, gs) => if (pg.tab (n + 2)).attr C f ∧ gs.length < 1000 then some ((S ++ [some (Cell.ins "Words" fs)]).set S.length (some (Cell.ins C (putD f x gs)))) else none
        | none => none) = _
      rw [hc]
      show (if (pg.tab (n + 2)).attr "Words" f = true ∧ fs.length < 1000 then _ else _) = _
      rw [if_pos ⟨hf, hl⟩, set_end]
    unfold putR
    rw [e]
  have p1 := fun x ρ => pt "line" x [] ρ (by kernel_rfl) (by decide)
  have p2 := fun x ρ => pt "words" x [("line", .int 0)] ρ (by kernel_rfl) (by decide)
  have p3 := fun x ρ => pt "at" x [("line", .int 0), ("words", .ref w)] ρ (by kernel_rfl) (by show 2 < 1000; omega)
  have q1 : ∀ x, putD "line" x [] = [(("line" : Str), x)] := fun _ => rfl
  have q2 : ∀ x, putD "words" x [("line", .int 0)] = [(("line" : Str), D.int 0), ("words", x)] := fun _ => rfl
  have q3 : ∀ x, putD "at" x [("line", .int 0), ("words", .ref w)] = [(("line" : Str), D.int 0), ("words", D.ref w), ("at", x)] := fun _ => rfl
  have e : d_Words___init__.sem (pg.tab (n + 2)) [.ref S.length, .int 0, .ref w] (S ++ [some (.ins "Words" [])]) = .ok .non (S ++ [Wo w 0]) := by
    rw [Words___init___sem, Words___init___b0_0_eq]
    simp -implicitDefEqProofs only [get_at, get_up, bind_ok, p1, q1, seq_next, Words___init___b0_1_eq, p2, q2, Words___init___b0_2_eq, p3, q3, Words___init___b0_3]
    have hc : clC (S ++ [some (Cell.ins "Words" [])]).length (.ins "Words" (fW w 0)) = true := by
      have : decide (w < (S ++ [some (Cell.ins "Words" [])]).length) = true := decide_eq_true (by simp; omega)
      show (true && (decide (w < (S ++ [some (Cell.ins "Words" [])]).length) && (true && true))) = true
      rw [this]
      rfl
    have h := cut_setN (S := S ++ [some (.ins "Words" [])]) (G := []) (n := S.length) (c := .ins "Words" (fW w 0)) (ρ := [some (.ref S.length), some (.int 0), some (.ref w)]) hc
    rw [List.append_nil, set_end] at h
    exact h
  unfold makeE
  rw [e]
  rfl
/-- what is due: the saying, or the word that cannot stand -/
def due (nm ws : List Str) : Rd1 := match pOr nm ws 40 0 with
  | (some x, i) => if ws.length ≤ i then (some x, i) else (none, i)
  | (none, i) => (none, i)
def resS (r : Rd1) (S : Store) : Res D := match r with
  | (some x, _) => .ok (enc x) S
  | (none, i) => bad i S
theorem bad_cut2 {S : Store} (k : Nat) (G : Store) : outR .cut S (bad k (S ++ G)) = bad k S := by
  show ifc (Kept S (S ++ G)) _ _ = _
  rw [ifc_pos (kept_app S G)]
  show Res.exc "BadText" _ ((S ++ G).take S.length) = _
  rw [List.take_left' rfl]
  rfl
theorem tok_len_wd {ws : List Str} (h : ∀ x ∈ ws, x.cps.toList.length ≤ 400000) (j : Nat) : (wd ws j).cps.toList.length ≤ 400000 := by
  unfold wd
  rw [List.getD_eq_getElem?_getD]
  by_cases hj : j < ws.length
  · rw [List.getElem?_eq_getElem hj]
    exact h _ (List.getElem_mem _)
  · rw [List.getElem?_eq_none (by omega)]
    decide +kernel
theorem m_read (st : List (Str × List D)) (hst : st.length ≤ 1000) (hnm : ∀ p ∈ st, p.1 ∈ NM) (z : Str) (hz : z.cps.toList.length ≤ 400000) (hl : (tok z).length < 2000) (hw : ∀ x ∈ tok z, x.cps.toList.length ≤ 400000) (n : Nat) (S : Store) :
    d_read_saying.sem (pg.tab (n + 128)) [stD st, .str z] S = resS (due (nmS st) (tok z)) S := by
  have o := m_or (m := S.length + 1) (w := S.length) (ws := tok z) (n + 123) (stD st) 0 _ (chain_pr (pOne_pr (nmS st) (tok z) 40)) hl (m_and (n + 122) (stD st) 0 _ (pOne_pr (nmS st) (tok z) 40) hl (m_one st hst hnm hl (fun j => tok_len_wd hw j) 40 n (Nat.le_refl _)))
  have hA : At ((S ++ [some (.lst (sD (tok z)))]) ++ [Wo S.length 0]) (S.length + 1) S.length (tok z) 0 := by
    refine ⟨?_, cell_app (cell_end _ _), by omega⟩
    rw [List.getElem?_append_right (by simp)]
    simp
  have o' := o _ 0 hA
  rw [show n + 128 = (n + 126) + 2 by omega, read_saying_sem, read_saying_b0_0_eq]
  have w1 : d_words_in.sem (pg.tab (n + 126 + 1)) [.str z] S = .ok (.ref S.length) (S ++ [some (.lst (sD (tok z)))]) := m_words (n + 125) S z hz
  have i1 : makeE (d_Words___init__.sem (pg.tab (n + 126))) "Words" [.int 0, .ref S.length] (S ++ [some (.lst (sD (tok z)))]) = .ok (.ref (S.length + 1)) ((S ++ [some (.lst (sD (tok z)))]) ++ [Wo S.length 0]) := by
    rw [m_init (n + 124) _ S.length (by simp)]
    simp
  have o1 : d_read_alternative.sem (pg.tab (n + 126 + 1)) [stD st, .ref (S.length + 1), .int 0] ((S ++ [some (.lst (sD (tok z)))]) ++ [Wo S.length 0]) = resW (pOr (nmS st) (tok z) 40 0) ((S ++ [some (.lst (sD (tok z)))]) ++ [Wo S.length 0]) (S.length + 1) S.length := o'
  simp -implicitDefEqProofs only [get_at, get_up, bind_ok, consR, w1, i1, List.set_cons_succ, List.set_cons_zero, seq_next, read_saying_b0_1_eq, o1]
  have drop : ∀ i, ((S ++ [some (Cell.lst (sD (tok z)))]) ++ [Wo S.length 0]).set (S.length + 1) (Wo S.length i) = S ++ [some (.lst (sD (tok z))), Wo S.length i] := fun i => by
    have h1 := set_end (S ++ [some (Cell.lst (sD (tok z)))]) (Wo S.length 0) (Wo S.length i)
    rw [show (S ++ [some (Cell.lst (sD (tok z)))]).length = S.length + 1 by simp] at h1
    rw [h1]
    simp
  unfold due
  cases hr : pOr (nmS st) (tok z) 40 0 with
  | mk o i =>
    cases o with
    | none =>
      simp -implicitDefEqProofs only [resW, bad_bind, bad_seq, drop]
      exact bad_cut2 i _
    | some x =>
      have hi := hA.set i
      have kc := k_close (n + 124) hi
      simp -implicitDefEqProofs only [resW, bind_ok, List.set_cons_succ, List.set_cons_zero, seq_next, read_saying_b0_2_eq, get_at, get_up]
      rw [show n + 126 + 2 = n + 124 + 4 by omega, kc]
      by_cases he : (tok z).length ≤ i
      · simp -implicitDefEqProofs only [he, if_true, bind_ok, seq_next, read_saying_b0_3_eq, get_at, get_up, seq_ret, drop]
        exact cut_app (cl_enc x)
      · simp -implicitDefEqProofs only [he, if_false, bad_bind, bad_seq, drop]
        exact bad_cut2 i _
end T80

set_option linter.all false
set_option maxRecDepth 100000
set_option maxHeartbeats 4000000
namespace T80
open PySem (Str)
open E
/-! ### how deep a saying is that is read -/
def Dp (k : Nat) (one : Nat → Rd1) : Prop := ∀ j x i, one j = (some x, i) → j + 2 ≤ i ∧ 3 * x.depth + j ≤ 3 * k + i
theorem dp_loop {ws : List Str} {wo : Str} {one : Nat → Rd1} {k : Nat} (h : Dp k one) : ∀ (f j0 : Nat) (x : Sy) (j : Nat) (y : Sy) (i : Nat), j0 + 2 ≤ j → 3 * x.depth + j0 ≤ 3 * k + j → loopP ws wo one f x j = (some y, i) → j0 + 2 ≤ i ∧ 3 * y.depth + j0 ≤ 3 * k + i
  | 0, j0, x, j, y, i, h1, h2, e => by cases e; exact ⟨h1, h2⟩
  | f + 1, j0, x, j, y, i, h1, h2, e => by
    unfold loopP at e
    split at e
    · cases hr : one (j + 1) with
      | mk o l => cases o with
        | none => rw [hr] at e; cases e
        | some z =>
          rw [hr] at e
          obtain ⟨g1, g2⟩ := h _ _ _ hr
          exact dp_loop h f j0 _ l y i (by omega) (by simp only [Sy.depth]; omega) e
    · cases e; exact ⟨h1, h2⟩
theorem dp_chain {ws : List Str} {wo : Str} {one : Nat → Rd1} {k : Nat} (h : Dp k one) : Dp k (chain ws wo one) := fun j x i e => by
  unfold chain at e
  cases hr : one j with
  | mk o l => cases o with
    | none => rw [hr] at e; cases e
    | some z =>
      rw [hr] at e
      obtain ⟨g1, g2⟩ := h _ _ _ hr
      exact dp_loop h _ j _ l x i g1 g2 e
theorem dp_one (nm ws : List Str) : ∀ k, Dp k (pOne nm ws k)
  | 0, j, x, i, e => by cases e
  | k + 1, j, x, i, e => by
    have ih := dp_one nm ws k
    unfold pOne at e
    split at e
    · cases hr : pOne nm ws k (j + 1) with
      | mk o l => cases o with
        | none => rw [hr] at e; cases e
        | some z => rw [hr] at e; cases e; have := ih _ _ _ hr; simp only [Sy.depth]; omega
    split at e
    · split at e
      · cases hr : pOne nm ws k (j + 2) with
        | mk o l => cases o with
          | none => rw [hr] at e; cases e
          | some z => rw [hr] at e; cases e; have := ih _ _ _ hr; simp only [Sy.depth]; omega
      · cases e
    split at e
    · cases hr : chain ws "or" (chain ws "and" (pOne nm ws k)) (j + 1) with
      | mk o l => cases o with
        | none => rw [hr] at e; cases e
        | some z =>
          rw [hr] at e
          have := dp_chain (dp_chain ih) _ _ _ hr
          simp only at e
          split at e
          · cases e; omega
          · cases e
    split at e
    · split at e
      · cases e; simp only [Sy.depth]; omega
      · cases e
    · cases e
section
variable {nm ws : List Str}
theorem loop_le {wo : Str} {one : Nat → Rd1} (h : ∀ j x i, one j = (some x, i) → i ≤ ws.length) : ∀ (f : Nat) (x : Sy) (j : Nat) (y : Sy) (i : Nat), j ≤ ws.length → loopP ws wo one f x j = (some y, i) → i ≤ ws.length := by
  intro f
  induction f with
  | zero => intro x j y i hj e; cases e; exact hj
  | succ f ih =>
    intro x j y i hj e
    unfold loopP at e
    split at e
    · cases hr : one (j + 1) with
      | mk o l => cases o with
        | none => rw [hr] at e; cases e
        | some z => rw [hr] at e; exact ih _ _ _ _ (h _ _ _ hr) e
    · cases e; exact hj
theorem chain_le {wo : Str} {one : Nat → Rd1} (h : ∀ j x i, one j = (some x, i) → i ≤ ws.length) : ∀ j x i, chain ws wo one j = (some x, i) → i ≤ ws.length := by
  intro j x i e
  unfold chain at e
  cases hr : one j with
  | mk o l => cases o with
    | none => rw [hr] at e; cases e
    | some z => rw [hr] at e; exact loop_le h _ _ _ _ _ (h _ _ _ hr) e
theorem one_le (he : ("" : Str) ∉ nm) : ∀ k j x i, pOne nm ws k j = (some x, i) → i ≤ ws.length := by
  intro k
  induction k with
  | zero => intro j x i e; cases e
  | succ k ih =>
    intro j x i e
    unfold pOne at e
    split at e
    · cases hr : pOne nm ws k (j + 1) with
      | mk o l => cases o with
        | none => rw [hr] at e; cases e
        | some z => rw [hr] at e; cases e; exact ih _ _ _ hr
    split at e
    · split at e
      · cases hr : pOne nm ws k (j + 2) with
        | mk o l => cases o with
          | none => rw [hr] at e; cases e
          | some z => rw [hr] at e; cases e; exact ih _ _ _ hr
      · cases e
    split at e
    · cases hr : chain ws "or" (chain ws "and" (pOne nm ws k)) (j + 1) with
      | mk o l => cases o with
        | none => rw [hr] at e; cases e
        | some z =>
          rw [hr] at e
          simp only at e
          split at e
          · rename_i hw
            cases e
            have : wd ws l ≠ "" := by rw [hw]; decide +kernel
            have := wd_lt this
            omega
          · cases e
    split at e
    · split at e
      · rename_i hw
        cases e
        by_cases hj : j + 1 < ws.length
        · omega
        · rw [wd_off hj] at hw
          exact absurd hw he
      · cases e
    · cases e
theorem due_deep (he : ("" : Str) ∉ nm) {x : Sy} {i : Nat} (h : due nm ws = (some x, i)) : 3 * x.depth ≤ 120 + ws.length := by
  have hp := dp_chain (ws := ws) (wo := "or") (dp_chain (ws := ws) (wo := "and") (dp_one nm ws 40))
  unfold due at h
  cases hr : pOr nm ws 40 0 with
  | mk o l => cases o with
    | none => rw [hr] at h; cases h
    | some z =>
      rw [hr] at h
      have h1 := hp _ _ _ hr
      have h2 := chain_le (chain_le (one_le he 40)) _ _ _ hr
      simp only at h
      split at h
      · cases h; omega
      · cases h
end
/-! ### sizes -/
theorem plain_enc : ∀ x : Sy, plainD (enc x) = true ∧ dpt (enc x) = x.depth + 1
  | .is_ m => ⟨rfl, rfl⟩
  | .un o x => by
    obtain ⟨h1, h2⟩ := plain_enc x
    exact ⟨by simp [enc, plainD, plainDs, h1], by simp [enc, dpt, dpts, h2, Sy.depth]⟩
  | .at_ k x => by
    obtain ⟨h1, h2⟩ := plain_enc x
    exact ⟨by simp [enc, plainD, plainDs, h1], by simp [enc, dpt, dpts, h2, Sy.depth]⟩
  | .bin o a b => by
    obtain ⟨h1, h2⟩ := plain_enc a
    obtain ⟨h3, h4⟩ := plain_enc b
    refine ⟨by simp [enc, plainD, plainDs, h1, h3], ?_⟩
    simp [enc, dpt, dpts, h2, h4, Sy.depth]
/-- signs that are no blanks -/
def nb (l : List Nat) : Nat := (l.filter fun c => c != 32).length
theorem nb_app (a b : List Nat) : nb (a ++ b) = nb a + nb b := by simp [nb]
theorem nb_le (a : List Nat) : nb a ≤ a.length := List.length_filter_le _ _
theorem flush_stp (p : List Str × List Nat) (c : Nat) : (flush (stp p c)).length ≤ (flush p).length + nb [c] := by
  obtain ⟨F, w⟩ := p
  unfold stp
  by_cases ha : al c = true
  · have hc : (c != 32) = true := by
      rw [bne_iff_ne]
      rintro rfl
      rw [al32] at ha
      cases ha
    rw [if_pos ha]
    have : nb [c] = 1 := by simp [nb, hc]
    rw [this]
    unfold flush
    by_cases hw : w = [] <;> simp [hw]
  · rw [if_neg ha]
    by_cases hc : c = 32
    · subst hc
      simp [flush]
    · have h2 : (c != 32) = true := bne_iff_ne.mpr hc
      have : nb [c] = 1 := by simp [nb, h2]
      rw [this, if_neg hc]
      simp [flush]
theorem flush_toks : ∀ (cs : List Nat) (p : List Str × List Nat), (flush (toks p cs)).length ≤ (flush p).length + nb cs
  | [], p => Nat.le_refl _
  | c :: cs, p => by
    have h1 := flush_stp p c
    have h2 := flush_toks cs (stp p c)
    have h3 : nb (c :: cs) = nb [c] + nb cs := nb_app [c] cs
    show (flush (toks (stp p c) cs)).length ≤ _
    omega
theorem tok_nb (z : Str) : (tok z).length ≤ nb z.cps.toList := by
  have := flush_toks z.cps.toList ([], [])
  have e : (flush (([], []) : List Str × List Nat)).length = 0 := rfl
  rw [e, Nat.zero_add] at this
  exact this
theorem toks_lens (L : Nat) (hL : 1 ≤ L) : ∀ (cs : List Nat) (F : List Str) (w : List Nat), (∀ x ∈ F, x.cps.toList.length ≤ L) → w.length + cs.length ≤ L → ∀ x ∈ flush (toks (F, w) cs), x.cps.toList.length ≤ L
  | [], F, w, h1, h2, x, hx => by
    have hx : x ∈ flush (F, w) := hx
    unfold flush at hx
    split at hx
    · exact h1 x hx
    · rcases List.mem_append.mp hx with hx | hx
      · exact h1 x hx
      · rw [List.mem_singleton] at hx
        subst hx
        show w.toArray.toList.length ≤ L
        simp only [List.length_nil] at h2
        simpa using h2
  | c :: cs, F, w, h1, h2, x, hx => by
    simp only [List.length_cons] at h2
    have hx : x ∈ flush (toks (stp (F, w) c) cs) := hx
    unfold stp at hx
    split at hx
    · exact toks_lens L hL cs F (w ++ [c]) h1 (by simp; omega) x hx
    · refine toks_lens L hL cs _ [] ?_ (by simp; omega) x hx
      intro y hy
      rcases List.mem_append.mp hy with hy | hy
      · unfold flush at hy
        split at hy
        · exact h1 y hy
        · rcases List.mem_append.mp hy with hy | hy
          · exact h1 y hy
          · rw [List.mem_singleton] at hy
            subst hy
            show w.toArray.toList.length ≤ L
            have : w.length ≤ L := by omega
            simpa using this
      · split at hy
        · cases hy
        · rw [List.mem_singleton] at hy
          subst hy
          show ([c].toArray).toList.length ≤ L
          simpa using hL
theorem tok_lens (z : Str) (hz : z.cps.toList.length ≤ 400000) : ∀ x ∈ tok z, x.cps.toList.length ≤ 400000 := toks_lens 400000 (by omega) _ [] [] (fun _ h => nomatch h) (by simpa using hz)
end T80

set_option linter.all false
set_option maxRecDepth 100000
set_option maxHeartbeats 4000000
namespace T80
open PySem (Str)
open E
theorem names7 (tg : D → Option EnvD) (hf : ∀ x, ∃ ρ, tg x = some ρ ∧ ρ[7]? = some (some x)) (all : List D) (S : Store) : ∀ (st : List (Str × List D)) (acc : List Str), acc.length + st.length ≤ 1000 →
    compL tg (fun _ S => Res.ok true S) (fun r18 S19 => (getE r18 7 S19).bind fun d20 S21 => (Res.ok (D.int 0) S21).bind fun d22 S23 => ixD d20 d22 S23) .still all S.length (st.map mkD) (S ++ [some (.lst (sD acc))]) = .ok () (S ++ [some (.lst (sD (acc ++ nmS st)))])
  | [], acc, _ => by rw [List.map_nil, comp_nil]; simp
  | p :: st, acc, h => by
    obtain ⟨ρ, h1, h2⟩ := hf (mkD p)
    simp only [List.length_cons] at h
    rw [List.map_cons, comp_cons, h1]
    simp -implicitDefEqProofs only [bind_ok, get_of h2]
    rw [show ixD (mkD p) (.int 0) (S ++ [some (.lst (sD acc))]) = .ok (.str p.1) (S ++ [some (.lst (sD acc))]) from by unfold mkD; rw [ix_t, at_0]]
    simp -implicitDefEqProofs only [cell_end S (sD acc), set_end]
    rw [if_pos (Nat.lt_of_lt_of_le (show (sD acc).length < 3000000 by simp; omega) (small_line (by decide)))]
    have ih := names7 tg hf all S st (acc ++ [p.1]) (by simp; omega)
    simp -implicitDefEqProofs only [bind_ok] at ih
    rw [show sD acc ++ [D.str p.1] = sD (acc ++ [p.1]) by simp [sD], ih]
    simp [nmS]
theorem nm_ne {st : List (Str × List D)} (hnm : ∀ p ∈ st, p.1 ∈ NM) : ("" : Str) ∉ nmS st := fun h => by
  obtain ⟨p, hp, e⟩ := List.mem_map.mp h
  have := hnm p hp
  rw [e] at this
  revert this
  decide +kernel
theorem xm_bad (n : Nat) (fs : List (Str × D)) (S : Store) (k : Res Fl) : xmR (pg.tab (n + 2)) "BadText" "BadText" fs S k = k := by
  unfold xmR
  rw [show (pg.tab (n + 2)).exm "BadText" "BadText" = some true from by kernel_rfl]
theorem xis_bad (n : Nat) (S : Store) : xisR (pg.tab (n + 2)) "BadText" "TreeError" S = .ok (.bl true) S ∧ xisR (pg.tab (n + 2)) "BadText" "BadFault" S = .ok (.bl false) S ∧ xisR (pg.tab (n + 2)) "BadText" "BadNumber" S = .ok (.bl false) S := by
  refine ⟨?_, ?_, ?_⟩
  · unfold xisR; rw [show (pg.tab (n + 2)).xis "BadText" "TreeError" = some true from by kernel_rfl]
  · unfold xisR; rw [show (pg.tab (n + 2)).xis "BadText" "BadFault" = some false from by kernel_rfl]
  · unfold xisR; rw [show (pg.tab (n + 2)).xis "BadText" "BadNumber" = some false from by kernel_rfl]
theorem xat_bad (n : Nat) (a b : D) (S : Store) : xattrR (pg.tab (n + 2)) "BadText" [("line", a), ("word", b)] "line" S = .ok a S ∧ xattrR (pg.tab (n + 2)) "BadText" [("line", a), ("word", b)] "word" S = .ok b S := by
  have e1 : (pg.tab (n + 2)).xattr "BadText" "line" = true := by kernel_rfl
  have e2 : (pg.tab (n + 2)).xattr "BadText" "word" = true := by kernel_rfl
  refine ⟨?_, ?_⟩
  · unfold xattrR
    rw [e1]
    rfl
  · unfold xattrR
    rw [e2]
    rfl
theorem tup_S2 (i k : Nat) (x y : D) (ρ : EnvD) (S : Store) : tupS [i, k] (.tup [x, y]) ρ S = .ok (.next ((ρ.set i (some x)).set k (some y))) S := rfl
theorem nox_ok {α : Type} (a : α) (S : Store) : (Res.ok a S).nox = .ok a S := rfl
theorem m_asked (st : List (Str × List D)) (hst : st.length ≤ 1000) (hnm : ∀ p ∈ st, p.1 ∈ NM) (z : Str) (hz : z.cps.toList.length ≤ 400000) (hb : nb z.cps.toList ≤ 460) (n : Nat) (S : Store) :
    d__law_asked_text.sem (pg.tab (n + 200)) [stD st, .str z] S = .ok (.bl true) S := by
  have hl : (tok z).length ≤ 460 := Nat.le_trans (tok_nb z) hb
  have he := nm_ne hnm
  have rd := m_read st hst hnm z hz (by omega) (tok_lens z hz)
  have lo := law_or (a := S.length + 1) (w := S.length) (ws := tok z) (nm := nmS st) (n + 197) 0 _ (by omega) (law_and (n + 196) 0 _ (by omega) (law_one (by omega) he 40 (n + 75) (Nat.le_refl _)))
  generalize hws : tok z = ws at *
  generalize hN : nmS st = nm at *
  rw [show n + 200 = (n + 198) + 2 by omega, _law_asked_text_sem, _law_asked_text_b0_0_eq]
  have sg : d__law_signs.sem (pg.tab (n + 198 + 1)) [.str z] S = .ok (.ref S.length) (S ++ [some (.lst (sD ws))]) := by
    rw [← hws]
    exact m_signs (n + 197) S z hz
  have c := names7 (fun x => some (List.set (wipeD [some (stD st), some (D.str z), some (.ref S.length), none, none, none, none, none] [7]) 7 (some x))) (fun x => ⟨_, rfl, rfl⟩) (st.map mkD) (S ++ [some (.lst (sD ws))]) st [] (by simp; exact hst)
  rw [List.nil_append, hN] at c
  simp -implicitDefEqProofs only [bind_ok] at c
  have cw : cellL ((S ++ [some (.lst (sD ws))]) ++ [some (.lst (sD nm))]) S.length = some (sD ws) := cell_app (cell_end _ _)
  have ca : cellL ((S ++ [some (.lst (sD ws))]) ++ [some (.lst (sD nm))]) (S.length + 1) = some (sD nm) := by
    have := cell_end (S ++ [some (.lst (sD ws))]) (sD nm)
    rwa [show (S ++ [some (Cell.lst (sD ws))]).length = S.length + 1 by simp] at this
  have l1 : (S ++ [some (Cell.lst (sD ws))]).length = S.length + 1 := by simp
  have lo1 : d__law_read_or.sem (pg.tab (n + 198 + 1)) [.ref (S.length + 1), .ref S.length, .int 0, .int 0] ((S ++ [some (.lst (sD ws))]) ++ [some (.lst (sD nm))]) = .ok (resL (pOr nm ws 40 0)) ((S ++ [some (.lst (sD ws))]) ++ [some (.lst (sD nm))]) := lo _ 0 ca cw
  have it : iterD (stD st) (S ++ [some (.lst (sD ws))]) = .ok (st.map mkD, .still) (S ++ [some (.lst (sD ws))]) := rfl
  have e0 : (S ++ [some (Cell.lst (sD ws))]) ++ [some (Cell.lst (sD []))] = (S ++ [some (Cell.lst (sD ws))]) ++ [some (Cell.lst [])] := rfl
  rw [l1] at c
  rw [e0] at c
  simp -implicitDefEqProofs only [get_at, get_up, bind_ok, consR, sg, List.set_cons_succ, List.set_cons_zero, seq_next, _law_asked_text_b0_1_eq, it, compR, l1, c, lo1]
  have fin : ∀ (r : Res Fl), r = .ok (.ret (.bl true)) ((S ++ [some (.lst (sD ws))]) ++ [some (.lst (sD nm))]) → outR .cut S r = .ok (.bl true) S := fun r hr => by
    subst hr
    rw [List.append_assoc]
    exact cut_app rfl
  refine fin _ ?_
  have hlen : ∀ j : Nat, decide ((j : Int) < ((sD ws).length : Int)) = decide (j < ws.length) := lt_w
  -- behind the words: what is due stands there
  have key : ∀ (o : Option Sy) (i : Nat), due nm ws = (o, i) → _law_asked_text_b0_3 (n + 198) [some (stD st), some (.str z), some (.ref S.length), some (encO o), some (.int (i : Int)), none, none, none] ((S ++ [some (.lst (sD ws))]) ++ [some (.lst (sD nm))]) = .ok (.ret (.bl true)) ((S ++ [some (.lst (sD ws))]) ++ [some (.lst (sD nm))]) := fun o i hd => by
    have rd1 : d_read_saying.sem (pg.tab (n + 198 + 1)) [stD st, .str z] ((S ++ [some (.lst (sD ws))]) ++ [some (.lst (sD nm))]) = resS (due nm ws) ((S ++ [some (.lst (sD ws))]) ++ [some (.lst (sD nm))]) := rd (n + 71) _
    generalize ((S ++ [some (.lst (sD ws))]) ++ [some (.lst (sD nm))]) = S2 at *
    rw [_law_asked_text_b0_3_eq]
    simp -implicitDefEqProofs only [get_at, get_up, bind_ok, consR, nox_ok, rd1, hd]
    cases o with
    | none =>
      obtain ⟨x1, x2, x3⟩ := xis_bad (n + 198) S2
      obtain ⟨y1, y2⟩ := xat_bad (n + 198) (.int 0) (.int (i : Int)) S2
      have sm := mH_same 1 (.tup [.int 0, .int (i : Int)]) rfl (by show max 0 (max 0 0) + 1 ≤ 1; omega) (n + 196) S2
      rw [show n + 196 + 1 + 2 = n + 198 + 1 by omega] at sm
      unfold resS bad
      simp -implicitDefEqProofs only [bind_exc, tryM, xm_bad, x1, x2, x3, tru_bl, bind_ok, Bool.not_true, orB, Bool.false_eq_true, if_false, List.set_cons_succ, List.set_cons_zero, get_at, get_up, encO, is_nn, andR, tru_ok, y1, y2, tup2, sm, nox_ok, seq_ret]
    | some x =>
      have hdeep := due_deep he hd
      obtain ⟨p1, p2⟩ := plain_enc x
      have sm := m_same 194 (enc x) p1 (by omega) (n + 3) S2
      rw [show n + 3 + 194 + 2 = n + 198 + 1 by omega] at sm
      have isn : cmpD .IsNot (enc x) .non S2 = .ok (.bl true) S2 := isn_encO (some x) S2
      simp -implicitDefEqProofs only [resS, bind_ok, tryM, List.set_cons_succ, List.set_cons_zero, seq_next, _law_asked_text_b0_4_eq, get_at, get_up, encO, isn, andR, tru_ok, consR, sm, seq_ret]
  have hlc : lenD [.ref S.length] ((S ++ [some (.lst (sD ws))]) ++ [some (.lst (sD nm))]) = .ok (.int ((sD ws).length : Int)) ((S ++ [some (.lst (sD ws))]) ++ [some (.lst (sD nm))]) := len_c cw
  cases hr : pOr nm ws 40 0 with
  | mk o i =>
    unfold due at key
    rw [hr] at key
    unfold resL
    simp -implicitDefEqProofs only [tup_S2, List.set_cons_succ, List.set_cons_zero, seq_next, _law_asked_text_b0_2_eq, get_at, get_up, bind_ok, isn_encO, asB_bl, andB, consR, hlc, lt_int, hlen]
    cases o with
    | none =>
      simp -implicitDefEqProofs only [Option.isSome_none, Bool.false_eq_true, if_false, bind_ok, seq_next]
      exact key none i rfl
    | some x =>
      simp -implicitDefEqProofs only [Option.isSome_some, if_true]
      by_cases hi : i < ws.length
      · have hi' : ¬ ws.length ≤ i := by omega
        simp -implicitDefEqProofs only [hi, decide_true, bind_ok, if_true, _law_asked_text_b1_0_eq, List.set_cons_succ, List.set_cons_zero, seq_next, _law_asked_text_b1_1]
        refine key none i ?_
        show (if ws.length ≤ i then _ else _) = _
        rw [if_neg hi']
      · have hi' : ws.length ≤ i := by omega
        simp -implicitDefEqProofs only [hi, decide_false, bind_ok, Bool.false_eq_true, if_false, seq_next]
        refine key (some x) i ?_
        show (if ws.length ≤ i then _ else _) = _
        rw [if_pos hi']
end T80

set_option linter.all false
set_option maxRecDepth 100000
set_option maxHeartbeats 4000000
namespace T80
open PySem (Str)
open E
/-! ### lists of texts, put together -/
/-- in any later store f makes a list of these texts -/
def Yld (T0 : Store) (f : Store → Res D) (xs : List Str) : Prop := ∀ G, ∃ p G', f (T0 ++ G) = .ok (.ref p) (T0 ++ G ++ G') ∧ cellL (T0 ++ G ++ G') p = some (sD xs)
section
variable {T0 : Store} {a k o : Nat} {xs ys : List Str} {f g : Store → Res D}
theorem Yld.ref (h : cellL T0 a = some (sD xs)) : Yld T0 (fun S => .ok (.ref a) S) xs := fun G => ⟨a, [], by rw [List.append_nil], by rw [List.append_nil]; exact cell_app h⟩
theorem new_l (ds : List D) (S : Store) : newL ds S = .ok (.ref S.length) (S ++ [some (.lst ds)]) := rfl
theorem sl_c {S : Store} {lo hi : Option Int} (h : cellL S a = some (sD xs)) : slD (.ref a) lo hi S = newL (cutD (sD xs) lo hi) S := by
  show (match seqL S (.ref a) with
    | some ds => newL (cutD ds lo hi) S
    | none => .fail) = _
  rw [show seqL S (.ref a) = some (sD xs) from h]
theorem cut_take (k : Nat) : cutD (sD xs) none (some (k : Int)) = sD (xs.take k) := by
  unfold cutD
  rw [HT.sIx_none, HT.sIx_nat, List.drop_zero, Nat.sub_zero]
  by_cases h : k ≤ xs.length
  · rw [Nat.min_eq_left (by simpa using h)]
    simp [sD]
  · rw [Nat.min_eq_right (by simp; omega), List.take_of_length_le (Nat.le_refl _), List.take_of_length_le (by omega)]
theorem cut_drop (k : Nat) : cutD (sD xs) (some (k : Int)) none = sD (xs.drop k) := by
  unfold cutD
  rw [HT.sIx_none, HT.sIx_nat]
  by_cases h : k ≤ xs.length
  · rw [Nat.min_eq_left (by simpa using h), List.take_of_length_le (by simp)]
    simp [sD]
  · rw [Nat.min_eq_right (by simp; omega), List.drop_of_length_le (Nat.le_refl _), List.take_nil, List.drop_of_length_le (by omega)]
    rfl
def YldN (T0 : Store) (f : Store → Res D) (xs : List Str) : Prop := ∀ G, ∃ p G', f (T0 ++ G) = .ok (.ref p) (T0 ++ G ++ G') ∧ cellL (T0 ++ G ++ G') p = some (sD xs) ∧ (T0 ++ G).length ≤ p
theorem YldN.w (h : YldN T0 f xs) : Yld T0 f xs := fun G => let ⟨p, G', e, c, _⟩ := h G; ⟨p, G', e, c⟩
theorem Yld.take (h : cellL T0 a = some (sD xs)) : Yld T0 (fun S => slD (.ref a) none (some (k : Int)) S) (xs.take k) := fun G =>
  ⟨_, _, (sl_c (cell_app h)).trans (by rw [cut_take, new_l]), cell_end _ _⟩
theorem Yld.drop (h : cellL T0 a = some (sD xs)) : Yld T0 (fun S => slD (.ref a) (some (k : Int)) none S) (xs.drop k) := fun G =>
  ⟨_, _, (sl_c (cell_app h)).trans (by rw [cut_drop, new_l]), cell_end _ _⟩
theorem one_line (x : Str) : [D.str x].length ≤ PySem.sizeLine := small_line (show 1 ≤ 16000000 by omega)
theorem Yld.one (x : Str) : Yld T0 (fun S => lstR [.str x] S) [x] := fun G => ⟨_, _, lst_R _ _ (one_line x), cell_end _ _⟩
theorem ix_s {S : Store} (h : cellL S a = some (sD xs)) (ho : o < xs.length) : ixD (.ref a) (.int (o : Int)) S = .ok (.str xs[o]) S := by
  rw [ix_c _ h, at_nat (show o < (sD xs).length by simpa using ho)]
  simp
theorem Yld.at_ (h : cellL T0 a = some (sD xs)) (ho : o < xs.length) : Yld T0 (fun S => (consR (ixD (.ref a) (.int (o : Int)) S) fun S' => Res.ok [] S').bind lstR) [xs[o]] := fun G => by
  refine ⟨(T0 ++ G).length, [some (.lst (sD [xs[o]]))], ?_, cell_end _ _⟩
  show ((consR (ixD (.ref a) (.int (o : Int)) (T0 ++ G)) fun S' => Res.ok [] S').bind lstR) = _
  rw [ix_s (cell_app h) ho]
  exact lst_R _ _ (one_line _)
theorem Yld.add (hf : Yld T0 f xs) (hg : Yld T0 g ys) (hl : xs.length + ys.length ≤ 2000000) : YldN T0 (fun S => (f S).bind fun d S1 => (g S1).bind fun e S2 => binD .Add d e S2) (xs ++ ys) := fun G => by
  obtain ⟨p, G1, e1, c1⟩ := hf G
  obtain ⟨q, G2, e2, c2⟩ := hg (G ++ G1)
  rw [← List.append_assoc] at e2 c2
  refine ⟨(T0 ++ G ++ G1 ++ G2).length, G1 ++ G2 ++ [some (.lst (sD (xs ++ ys)))], ?_, ?_, by simp only [List.length_append]; omega⟩
  · show (f (T0 ++ G)).bind _ = _
    rw [e1]
    show (g (T0 ++ G ++ G1)).bind _ = _
    rw [e2]
    show binD .Add (.ref p) (.ref q) (T0 ++ G ++ G1 ++ G2) = _
    rw [add_lst p q (sD xs) (sD ys) _ (cell_app c1) c2 (small_line (by simp; omega))]
    simp [sD]
  · have := cell_end (T0 ++ G ++ G1 ++ G2) (sD (xs ++ ys))
    simpa [List.append_assoc] using this
end
/-! ### _law_put -/
theorem list_c {S : Store} {a : Nat} {xs : List Str} (h : cellL S a = some (sD xs)) : listD [.ref a] S = newL (sD xs) S := by
  show (match seqL S (.ref a) with
    | some ds => newL ds S
    | none => .fail) = _
  rw [show seqL S (.ref a) = some (sD xs) from h]
theorem Yld.list {T0 : Store} {f : Store → Res D} {xs : List Str} (h : Yld T0 f xs) : Yld T0 (fun S => (consR (f S) fun S' => Res.ok [] S').bind listD) xs := fun G => by
  obtain ⟨p, G1, e1, c1⟩ := h G
  refine ⟨(T0 ++ G ++ G1).length, G1 ++ [some (.lst (sD xs))], ?_, ?_⟩
  · show ((consR (f (T0 ++ G)) fun S' => Res.ok [] S').bind listD) = _
    rw [e1]
    show listD [.ref p] (T0 ++ G ++ G1) = _
    rw [list_c c1, new_l]
    simp only [List.append_assoc]
  · have := cell_end (T0 ++ G ++ G1) (sD xs)
    simpa [List.append_assoc] using this
def putL (xs : List Str) (k : Nat) (x : Str) : List Str := xs.take k ++ [x] ++ xs.drop (k + 1)
theorem m_put (n : Nat) (S : Store) (a k : Nat) (x : Str) (xs : List Str) (h : cellL S a = some (sD xs)) (hl : xs.length ≤ 500000) :
    d__law_put.sem (pg.tab (n + 2)) [.ref a, .int (k : Int), .str x] S = .ok (.ref S.length) (S ++ [some (.lst (sD (putL xs k x)))]) := by
  rw [_law_put_sem, _law_put_b0_0_eq]
  have a1 : ((k : Int) + 1) = ((k + 1 : Nat) : Int) := rfl
  have Y := Yld.add (Yld.add (Yld.list (Yld.take (k := k) h)) (Yld.one x) (by simp; omega)).w (Yld.list (Yld.drop (k := k + 1) h)) (by simp; omega) []
  obtain ⟨p, G', e, c, hp⟩ := Y
  rw [List.append_nil] at e c hp
  have fin : ∀ r, r = .ok (.ret (.ref p)) (S ++ G') → outR .cut S r = .ok (.ref S.length) (S ++ [some (.lst (sD (putL xs k x)))]) := fun r hr => by
    subst hr
    exact cut_list hp c (clDs_strs _ _)
  refine fin _ ?_
  simp -implicitDefEqProofs only [get_at, get_up, bind_ok, consR, optR, add_int, a1] at e ⊢
  rw [e]
  rfl
end T80

set_option linter.all false
set_option maxRecDepth 100000
set_option maxHeartbeats 4000000
namespace T80
open PySem (Str)
open E
/-! ### spoilt texts -/
def wt (xs : List Str) : Nat := (xs.map (·.length)).sum + xs.length
theorem wt_app (a b : List Str) : wt (a ++ b) = wt a + wt b := by
  simp only [wt, List.map_append, List.sum_append, List.length_append]; omega
theorem wt_one (x : Str) : wt [x] = x.length + 1 := by simp [wt]
theorem wt_cut (k : Nat) (xs : List Str) : wt (xs.take k) + wt (xs.drop k) = wt xs := by
  rw [← wt_app, List.take_append_drop]
theorem wt_at {xs : List Str} {o : Nat} (h : o < xs.length) : xs[o].length + 1 ≤ wt xs := by
  have h1 := wt_cut o xs
  have h2 : xs.drop o = xs[o] :: xs.drop (o + 1) := List.drop_eq_getElem_cons h
  have h3 : wt (xs[o] :: xs.drop (o + 1)) = xs[o].length + 1 + wt (xs.drop (o + 1)) := by
    rw [← wt_one, ← wt_app]; rfl
  rw [h2, h3] at h1
  omega
theorem wt_drop1 (k : Nat) (xs : List Str) : wt (xs.drop (k + 1)) ≤ wt (xs.drop k) := by
  have h := wt_cut 1 (xs.drop k)
  rw [List.drop_drop] at h
  omega
theorem wt_put (xs : List Str) (k : Nat) (x : Str) : wt (putL xs k x) ≤ wt xs + x.length + 1 := by
  unfold putL
  rw [wt_app, wt_app, wt_one]
  have := wt_cut k xs
  have := wt_drop1 k xs
  omega
theorem wt_put2 {xs : List Str} {k : Nat} (h : k < xs.length) (x : Str) : wt (putL xs k x) + xs[k].length = wt xs + x.length := by
  have h1 := wt_cut k xs
  have h2 : xs.drop k = xs[k] :: xs.drop (k + 1) := List.drop_eq_getElem_cons h
  have h3 : wt (xs[k] :: xs.drop (k + 1)) = xs[k].length + 1 + wt (xs.drop (k + 1)) := by
    rw [← wt_one, ← wt_app]; rfl
  rw [h2, h3] at h1
  unfold putL
  rw [wt_app, wt_app, wt_one]
  omega
theorem len_wt (xs : List Str) : xs.length ≤ wt xs := by unfold wt; omega
theorem join_wt (y : Str) (hy : y.length ≤ 1) (xs : List Str) : (PySem.Txt.join y xs).length ≤ wt xs := by
  have h := PySem.StrLaws.join_length_le y xs
  have e : PySem.Txt.join y xs = Str.join y xs := PySem.StrLaws.glued_eq_join y xs
  rw [e]
  have : xs.length * y.length ≤ xs.length * 1 := Nat.mul_le_mul_left _ hy
  unfold wt
  omega
theorem split_wt (x y : Str) (hy : y.length = 1) : wt (PySem.Txt.split x y) ≤ x.length + 1 := PyProof.Rows.split_weight x y (by omega)
theorem strs_D : ∀ ys : List Str, strsD (sD ys) = some ys
  | [] => rfl
  | y :: ys => by
    show (strsD (sD ys)).map (y :: ·) = _
    rw [strs_D ys]; rfl
theorem mk1_join (T : Tab) (a : Store → Res (List D)) (z : Str) (S : Store) : mK1 T "join" a (.str z) S = (a S).bind fun es S2 => joinM (.str z) es S2 := by
  unfold mK1
  rw [show insL S (.str z) = none from rfl, show bm1F "join" = some .join from by rfl]
  rfl
theorem mk1_split (T : Tab) (a : Store → Res (List D)) (z : Str) (S : Store) : mK1 T "split" a (.str z) S = (a S).bind fun es S2 => splitM (.str z) es S2 := by
  unfold mK1
  rw [show insL S (.str z) = none from rfl, show bm1F "split" = some .split from by rfl]
  rfl
theorem join_c {S : Store} {p : Nat} {ys : List Str} (z : Str) (hz : z.length ≤ 1) (h : cellL S p = some (sD ys)) (hw : wt ys ≤ 1000000) : joinM (.str z) [.ref p] S = .ok (.str (PySem.Txt.join z ys)) S := by
  show (match (seqL S (.ref p)).bind strsD with
    | some ys => if (ys.map Str.length).sum + ys.length * z.length ≤ 16777216 then Res.ok (D.str (PySem.Txt.join z ys)) S else .fail
    | none => .fail) = _
  rw [show seqL S (.ref p) = some (sD ys) from h]
  show (match strsD (sD ys) with
    | some ys => if (ys.map Str.length).sum + ys.length * z.length ≤ 16777216 then Res.ok (D.str (PySem.Txt.join z ys)) S else .fail
    | none => .fail) = _
  rw [strs_D]
  refine if_pos ?_
  have : ys.length * z.length ≤ ys.length * 1 := Nat.mul_le_mul_left _ hz
  have hw' : (ys.map Str.length).sum + ys.length ≤ 1000000 := hw
  show (ys.map Str.length).sum + ys.length * z.length ≤ 16777216
  omega
theorem split_s (z y : Str) (hy : y.length = 1) (hz : z.length ≤ 1000000) (S : Store) : splitM (.str z) [.str y] S = newL (sD (PySem.Txt.split z y)) S := by
  refine if_pos ⟨?_, ?_⟩
  · rw [hy]; rfl
  · exact small_line (by omega)
theorem lit1 : ("\n" : Str).length = 1 ∧ (" " : Str).length = 1 := ⟨by kernel_rfl, by kernel_rfl⟩
/-- the tail: words joined, put in their line -/
theorem spoilt_tail (n : Nat) {T : Store} {a p k : Nat} {lines ws : List Str} (ha : cellL T a = some (sD lines)) (hp : cellL T p = some (sD ws)) (x0 x1 x2 x5 x7 x8 x9 : D) (h1 : wt lines ≤ 100000) (h2 : wt ws ≤ 100000) (hk : k < lines.length) :
    ∃ z' G, z'.length + lines[k].length ≤ wt lines + wt ws ∧ _law_spoilt_b0_12 (n + 1) [some x0, some x1, some x2, some (.ref a), some (.int (k : Int)), some x5, some (.ref p), some x7, some x8, some x9] T = .ok (.ret (.str z')) (T ++ G) := by
  have j1 := join_wt " " (Nat.le_of_eq lit1.2) ws
  have w1 := wt_put2 hk (PySem.Txt.join " " ws)
  refine ⟨PySem.Txt.join "\n" (putL lines k (PySem.Txt.join " " ws)), [some (.lst (sD (putL lines k (PySem.Txt.join " " ws))))], ?_, ?_⟩
  · have := join_wt "\n" (Nat.le_of_eq lit1.1) (putL lines k (PySem.Txt.join " " ws))
    omega
  · have pt := m_put n T a k (PySem.Txt.join " " ws) lines ha (by have := len_wt lines; omega)
    have jc := join_c (p := T.length) "\n" (Nat.le_of_eq lit1.1) (cell_end T (sD (putL lines k (PySem.Txt.join " " ws)))) (by omega)
    rw [_law_spoilt_b0_12_eq]
    simp -implicitDefEqProofs only [get_at, get_up, bind_ok, mk1_join, consR, join_c " " (Nat.le_of_eq lit1.2) hp (by omega), pt, jc, seq_ret]
/-- the head: what is drawn -/
theorem m_spoilt (n : Nat) (S : Store) (m : Nat) (l : List Int) (z : Str) (sg : List Str) (hc : cellL S m = some (iD l)) (hz : z.length ≤ 10000) (hsg : sg ≠ []) (hsl : ∀ x ∈ sg, x.length ≤ 5) :
    ∃ (z' : Str) (l' : List Int), z'.length ≤ 2 * z.length + 30 ∧ d__law_spoilt.sem (pg.tab (n + 3)) [.ref m, .str z, .tup (sD sg)] S = .ok (.str z') (S.set m (some (.lst (iD l')))) := by
  have hm := cell_lt hc
  rw [_law_spoilt_sem, _law_spoilt_b0_0_eq]
  conv => enter [1, z', 1, l', 2]; lhs; arg 3; rw [W_self hc]
  generalize hL : PySem.Txt.split z "\n" = lines
  have hw : wt lines ≤ z.length + 1 := hL ▸ split_wt z "\n" lit1.1
  have hln : lines ≠ [] := by
    intro e
    have := PyProof.Rows.split_pos z "\n"
    rw [hL, e] at this
    exact absurd this (by simp)
  have hsp := split_s z "\n" lit1.1 (by omega)
  rw [hL] at hsp
  have w0 : (W S m l []).length = S.length := by simp
  have hn0 : (lines.length : Int) ≠ 0 := by simpa using hln
  have hlen : ∀ (l : List Int) (G : Store), lenD [.ref S.length] (W S m l (some (.lst (sD lines)) :: G)) = .ok (.int (lines.length : Int)) (W S m l (some (.lst (sD lines)) :: G)) := fun l G => by
    rw [len_c cW0]; simp
  obtain ⟨at_, hat, ea1, ea2⟩ := at_mod (xs := lines) (pk l) hln
  generalize hWd : PySem.Txt.split lines[at_] " " = words
  have hww : wt words ≤ lines[at_].length + 1 := hWd ▸ split_wt _ " " lit1.2
  have hwn : words ≠ [] := by
    intro e
    have := PyProof.Rows.split_pos lines[at_] " "
    rw [hWd, e] at this
    exact absurd this (by simp)
  have hla := wt_at hat
  have hsp2 := split_s lines[at_] " " lit1.2 (by omega)
  rw [hWd] at hsp2
  have ixl : ∀ (l : List Int) (G : Store) (o : Nat) (ho : o < lines.length), ixD (.ref S.length) (.int (o : Int)) (W S m l (some (.lst (sD lines)) :: G)) = .ok (.str lines[o]) (W S m l (some (.lst (sD lines)) :: G)) := fun l G o ho => ix_s cW0 ho
  have w1 : ∀ l, (W S m l [some (.lst (sD lines))]).length = S.length + 1 := fun l => by simp
  have hnw : (words.length : Int) ≠ 0 := by simpa using hwn
  have hlen2 : ∀ (l : List Int) (G : Store), lenD [.ref (S.length + 1)] (W S m l (some (.lst (sD lines)) :: some (.lst (sD words)) :: G)) = .ok (.int (words.length : Int)) (W S m l (some (.lst (sD lines)) :: some (.lst (sD words)) :: G)) := fun l G => by
    rw [len_c cW1]; simp
  generalize hl2 : l.dropLast.dropLast = l2
  obtain ⟨sp, hsp_, es1, es2⟩ := at_mod (xs := words) (pk l2) hwn
  obtain ⟨sw, hsw, eg1, eg2⟩ := at_mod (xs := sD sg) (pk l2.dropLast) (by simpa using hsg)
  obtain ⟨ot, hot, eo1, eo2⟩ := at_mod (xs := lines) (pk l2.dropLast.dropLast) hln
  have hgn : ((sD sg).length : Int) ≠ 0 := by simpa using hsg
  generalize hl5 : l2.dropLast.dropLast.dropLast = l5
  obtain ⟨kd, hkd⟩ : ∃ kd : Int, (pk l.dropLast).fmod 10 = kd := ⟨_, rfl⟩
  have hsw' : sw < sg.length := by simpa using hsw
  have eg3 : L2.atI (sD sg) ((pk l2.dropLast).fmod ((sD sg).length : Int)) = some (.str sg[sw]) := by rw [eg2]; simp
  have hword := hsl sg[sw] (List.getElem_mem _)
  generalize sg[sw] = word at eg3 hword
  simp -implicitDefEqProofs only [get_at, get_up, bind_ok, mk1_split, consR, hsp, new_l, w0, wapp, List.nil_append, List.set_cons_succ, List.set_cons_zero, seq_next, _law_spoilt_b0_1_eq, pick_W _ _ _ hm, hlen, mod_int _ _ hn0, ea1, _law_spoilt_b0_2_eq, mod_int _ 10 (by omega), _law_spoilt_b0_3_eq, ixl _ _ _ hat, hsp2, w1, List.cons_append,
    _law_spoilt_b0_4_eq, hl2, hlen2, mod_int _ _ hnw, es1, _law_spoilt_b0_5_eq, len_t, mod_int _ _ hgn, ix_t, eg3, _law_spoilt_b0_6_eq, eo1, hl5, hkd, _law_spoilt_b0_7_eq, eq_int, asB_bl]
  have ca : cellL (W S m l5 [some (.lst (sD lines)), some (.lst (sD words))]) S.length = some (sD lines) := cW0
  have cb : cellL (W S m l5 [some (.lst (sD lines)), some (.lst (sD words))]) (S.length + 1) = some (sD words) := cW1
  have fin : ∀ (z' : Str) (H : Store) (r : Res Fl), z'.length ≤ 2 * z.length + 30 → r = .ok (.ret (.str z')) (W S m l5 [some (.lst (sD lines)), some (.lst (sD words))] ++ H) → ∃ (z' : Str) (l' : List Int), z'.length ≤ 2 * z.length + 30 ∧ outR .cut S r = .ok (.str z') (S.set m (some (.lst (iD l')))) := fun z' H r h1 h2 => by
    subst h2
    rw [wapp]
    exact ⟨z', l5, h1, W_cut rfl⟩
  generalize W S m l5 [some (.lst (sD lines)), some (.lst (sD words))] = T at *
  have a1 : ((at_ : Int) + 1) = ((at_ + 1 : Nat) : Int) := rfl
  have s1 : ((sp : Int) + 1) = ((sp + 1 : Nat) : Int) := rfl
  have ll := len_wt lines
  have lw := len_wt words
  have hjl : ∀ xs : List Str, wt xs ≤ 2 * z.length + 30 → (PySem.Txt.join "\n" xs).length ≤ 2 * z.length + 30 := fun xs h => Nat.le_trans (join_wt "\n" (Nat.le_of_eq lit1.1) xs) h
  have k1 := wt_cut at_ lines
  have k2 := wt_drop1 at_ lines
  have k3 := wt_at hot
  by_cases c0 : kd = 0
  · obtain ⟨p, G', e, c, _⟩ := Yld.add (Yld.take (k := at_) ca) (Yld.drop (k := at_ + 1) ca) (by simp; omega) []
    rw [List.append_nil] at e c
    have hq : wt (lines.take at_ ++ lines.drop (at_ + 1)) ≤ 2 * z.length + 30 := by rw [wt_app]; omega
    refine fin (PySem.Txt.join "\n" (lines.take at_ ++ lines.drop (at_ + 1))) G' _ (hjl _ hq) ?_
    simp -implicitDefEqProofs only [bind_ok] at e
    simp -implicitDefEqProofs only [c0, decide_true, if_true, _law_spoilt_b1_0_eq, get_at, get_up, bind_ok, mk1_join, consR, optR, add_int, a1, e, join_c "\n" (Nat.le_of_eq lit1.1) c (by omega), seq_ret]
  simp -implicitDefEqProofs only [c0, decide_false, Bool.false_eq_true, if_false, seq_next, _law_spoilt_b0_8_eq, get_at, get_up, bind_ok, eq_int, asB_bl]
  by_cases c1 : kd = 1
  · obtain ⟨p, G', e, c, _⟩ := Yld.add (Yld.add (Yld.take (k := at_) ca) (Yld.at_ ca hot) (by simp; omega)).w (Yld.drop (k := at_) ca) (by simp; omega) []
    rw [List.append_nil] at e c
    have hq : wt (lines.take at_ ++ [lines[ot]] ++ lines.drop at_) ≤ 2 * z.length + 30 := by rw [wt_app, wt_app, wt_one]; omega
    refine fin (PySem.Txt.join "\n" (lines.take at_ ++ [lines[ot]] ++ lines.drop at_)) G' _ (hjl _ hq) ?_
    simp -implicitDefEqProofs only [bind_ok, consR] at e
    simp -implicitDefEqProofs only [c1, decide_true, if_true, _law_spoilt_b2_0_eq, get_at, get_up, bind_ok, mk1_join, consR, optR]
    simp -implicitDefEqProofs only [e, bind_ok, join_c "\n" (Nat.le_of_eq lit1.1) c (by omega), seq_ret]
  simp -implicitDefEqProofs only [c1, decide_false, Bool.false_eq_true, if_false, seq_next, _law_spoilt_b0_9_eq, get_at, get_up, bind_ok, eq_int, asB_bl]
  by_cases c2 : kd = 2
  · have pt := m_put n T S.length at_ lines[ot] lines ca (by omega)
    have hq := wt_put lines at_ lines[ot]
    refine fin (PySem.Txt.join "\n" (putL lines at_ lines[ot])) [some (.lst (sD (putL lines at_ lines[ot])))] _ (hjl _ (by omega)) ?_
    simp -implicitDefEqProofs only [c2, decide_true, if_true, _law_spoilt_b3_0_eq, get_at, get_up, bind_ok, mk1_join, consR, ix_s ca hot, pt, join_c "\n" (Nat.le_of_eq lit1.1) (cell_end T (sD (putL lines at_ lines[ot]))) (by omega), seq_ret]
  simp -implicitDefEqProofs only [c2, decide_false, Bool.false_eq_true, if_false, seq_next, _law_spoilt_b0_10_eq, get_at, get_up, bind_ok, eq_int, asB_bl]
  by_cases c3 : kd = 3
  · have l1 : (z ++ ("\n" : Str)).length = z.length + 1 := by rw [len_app, lit1.1]
    have e1 := add_str z "\n" (by rw [lit1.1]; exact small_line (by omega)) T
    have l0 : ("" : Str).length = 0 := by kernel_rfl
    by_cases cw : word = ";"
    · refine fin ((z ++ ("\n" : Str)) ++ ("" : Str)) [] _ (by rw [len_app, l1, l0]; omega) ?_
      have e2 := add_str (z ++ ("\n" : Str)) "" (by rw [l1, l0]; exact small_line (by omega)) T
      simp -implicitDefEqProofs only [c3, decide_true, if_true, _law_spoilt_b4_0_eq, get_at, get_up, bind_ok, e1, eq_str, asB_bl, cw, e2, seq_ret, List.append_nil]
    · refine fin ((z ++ ("\n" : Str)) ++ word) [] _ (by rw [len_app, l1]; omega) ?_
      have e2 := add_str (z ++ ("\n" : Str)) word (by rw [l1]; exact small_line (by omega)) T
      simp -implicitDefEqProofs only [c3, decide_true, if_true, _law_spoilt_b4_0_eq, get_at, get_up, bind_ok, e1, eq_str, asB_bl, cw, decide_false, Bool.false_eq_true, if_false, e2, seq_ret, List.append_nil]
  simp -implicitDefEqProofs only [c3, decide_false, Bool.false_eq_true, if_false, seq_next, _law_spoilt_b0_11_eq, get_at, get_up, bind_ok, eq_int, asB_bl]
  -- the words of the line are changed
  have tail : ∀ (p : Nat) (G : Store) (ws : List Str) (r : Res Fl), cellL (T ++ G) p = some (sD ws) → wt ws ≤ wt words + lines[at_].length + 10 → r = .ok (.next [some (.ref m), some (.str z), some (.tup (sD sg)), some (.ref S.length), some (.int (at_ : Int)), some (.int kd), some (.ref p), some (.int (sp : Int)), some (.str word), some (.int (ot : Int))]) (T ++ G) →
      ∃ (z' : Str) (l' : List Int), z'.length ≤ 2 * z.length + 30 ∧ outR .cut S (seqE r (_law_spoilt_b0_12 (n + 1))) = .ok (.str z') (S.set m (some (.lst (iD l')))) := fun p G ws r h1 h2 h3 => by
    subst h3
    obtain ⟨z', G2, g1, g2⟩ := spoilt_tail n (k := at_) (cell_app (G := G) ca) h1 (.ref m) (.str z) (.tup (sD sg)) (.int kd) (.int (sp : Int)) (.str word) (.int (ot : Int)) (by omega) (by omega) hat
    refine fin z' (G ++ G2) _ (by omega) ?_
    rw [seq_next, g2, List.append_assoc]
  have q1 := wt_cut sp words
  have q2 := wt_drop1 sp words
  have q3 := wt_at hsp_
  by_cases c4 : kd = 4
  · obtain ⟨p, G', e, c, _⟩ := Yld.add (Yld.take (k := sp) cb) (Yld.drop (k := sp + 1) cb) (by simp; omega) []
    rw [List.append_nil] at e c
    refine tail p G' _ _ c (by rw [wt_app]; omega) ?_
    simp -implicitDefEqProofs only [bind_ok] at e
    simp -implicitDefEqProofs only [c4, decide_true, if_true, _law_spoilt_b5_0_eq, get_at, get_up, bind_ok, optR, add_int, s1, e, List.set_cons_succ, List.set_cons_zero, seq_next, _law_spoilt_b5_1]
  simp -implicitDefEqProofs only [c4, decide_false, Bool.false_eq_true, if_false, _law_spoilt_b6_0_eq, get_at, get_up, bind_ok, eq_int, asB_bl]
  by_cases c5 : kd = 5
  · obtain ⟨p, G', e, c, _⟩ := Yld.add (Yld.add (Yld.take (k := sp) cb) (Yld.at_ cb hsp_) (by simp; omega)).w (Yld.drop (k := sp) cb) (by simp; omega) []
    rw [List.append_nil] at e c
    refine tail p G' _ _ c (by rw [wt_app, wt_app, wt_one]; omega) ?_
    simp -implicitDefEqProofs only [bind_ok, consR] at e
    simp -implicitDefEqProofs only [c5, decide_true, if_true, _law_spoilt_b7_0_eq, get_at, get_up, bind_ok, consR, optR]
    simp -implicitDefEqProofs only [e, bind_ok, List.set_cons_succ, List.set_cons_zero, seq_next, _law_spoilt_b7_1, _law_spoilt_b6_1]
  simp -implicitDefEqProofs only [c5, decide_false, Bool.false_eq_true, if_false, _law_spoilt_b8_0_eq, get_at, get_up, bind_ok, eq_int, asB_bl]
  by_cases c6 : kd = 6
  · obtain ⟨p, G', e, c, _⟩ := Yld.add (Yld.add (Yld.take (k := sp) cb) (Yld.one word) (by simp; omega)).w (Yld.drop (k := sp) cb) (by simp; omega) []
    rw [List.append_nil] at e c
    refine tail p G' _ _ c (by rw [wt_app, wt_app, wt_one]; omega) ?_
    simp -implicitDefEqProofs only [bind_ok, consR] at e
    simp -implicitDefEqProofs only [c6, decide_true, if_true, _law_spoilt_b9_0_eq, get_at, get_up, bind_ok, consR, optR]
    simp -implicitDefEqProofs only [e, bind_ok, List.set_cons_succ, List.set_cons_zero, seq_next, _law_spoilt_b9_1, _law_spoilt_b8_1, _law_spoilt_b6_1]
  simp -implicitDefEqProofs only [c6, decide_false, Bool.false_eq_true, if_false, _law_spoilt_b10_0_eq, get_at, get_up, bind_ok, eq_int, asB_bl]
  by_cases c7 : kd = 7
  · obtain ⟨p, G', e, c, _⟩ := Yld.add (Yld.ref cb) (Yld.one word) (by simp; omega) []
    rw [List.append_nil] at e c
    refine tail p G' _ _ c (by rw [wt_app, wt_one]; omega) ?_
    simp -implicitDefEqProofs only [bind_ok, consR] at e
    simp -implicitDefEqProofs only [c7, decide_true, if_true, _law_spoilt_b11_0_eq, get_at, get_up, bind_ok, consR]
    simp -implicitDefEqProofs only [e, bind_ok, List.set_cons_succ, List.set_cons_zero, seq_next, _law_spoilt_b11_1, _law_spoilt_b10_1, _law_spoilt_b8_1, _law_spoilt_b6_1]
  · have pt := m_put n T (S.length + 1) sp word words cb (by omega)
    have hq := wt_put words sp word
    refine tail T.length [some (.lst (sD (putL words sp word)))] _ _ (cell_end _ _) (by omega) ?_
    simp -implicitDefEqProofs only [c7, decide_false, Bool.false_eq_true, if_false, _law_spoilt_b12_0_eq, get_at, get_up, bind_ok, consR, pt, List.set_cons_succ, List.set_cons_zero, seq_next, _law_spoilt_b12_1, _law_spoilt_b10_1, _law_spoilt_b8_1, _law_spoilt_b6_1]
end T80

set_option linter.all false
set_option maxRecDepth 100000
set_option maxHeartbeats 4000000
namespace T80
open PySem (Str)
open E
/-! ### held texts -/
theorem nm_short {w : Str} (h : w ∈ NM) : w.length ≤ 2 := by
  have : NM.all (fun w => decide (w.length ≤ 2)) = true := by kernel_rfl
  exact of_decide_eq_true (List.all_eq_true.mp this w h)
theorem held_turn (n : Nat) {S : Store} {m : Nat} (hm : m < S.length) (l : List Int) (x1 x2 x4 : D) (x5 : Option D) (t : Str) (ht : t.length ≤ 1000) : ∃ (t' : Str) (l' : List Int) (x5' : Option D), t'.length ≤ t.length + 5 ∧
    _law_held_b1_0 (n + 1) [some (.ref m), some x1, some x2, some (.str t), some x4, x5] (W S m l []) = .ok (.next [some (.ref m), some x1, some x2, some (.str t'), some x4, x5']) (W S m l' []) := by
  have l1 : ("not " : Str).length = 4 := by kernel_rfl
  have l2 : ("at 2 " : Str).length = 5 := by kernel_rfl
  have l3 : ("(" : Str).length = 1 := by kernel_rfl
  have l4 : (")" : Str).length = 1 := by kernel_rfl
  have e1 := fun T => add_str "not " t (by rw [l1]; exact small_line (by omega)) T
  have e2 := fun T => add_str "at 2 " t (by rw [l2]; exact small_line (by omega)) T
  have e3 := fun T => add_str "(" t (by rw [l3]; exact small_line (by omega)) T
  have e4 := fun T => add_str (("(" : Str) ++ t) ")" (by rw [len_app, l3, l4]; exact small_line (by omega)) T
  have r0 := Int.fmod_nonneg_of_pos (pk l) (b := 3) (by omega)
  have r1 := Int.fmod_lt_of_pos (pk l) (b := 3) (by omega)
  have hk : (pk l).fmod 3 = 0 ∨ (pk l).fmod 3 = 1 ∨ (pk l).fmod 3 = 2 := by omega
  rw [_law_held_b1_0_eq]
  simp -implicitDefEqProofs only [get_at, get_up, consR, bind_ok, pick_W _ _ _ hm, mod_int _ 3 (by omega), List.set_cons_succ, List.set_cons_zero, seq_next, _law_held_b1_1_eq, e1, e2, e3, e4, tup3, ix_t, _law_held_b1_2]
  rcases hk with hk | hk | hk
  · rw [hk, at_0]
    exact ⟨("not " : Str) ++ t, l.dropLast, _, by rw [len_app, l1]; omega, rfl⟩
  · rw [hk, at_1]
    exact ⟨("at 2 " : Str) ++ t, l.dropLast, _, by rw [len_app, l2]; omega, rfl⟩
  · rw [hk, at_2]
    exact ⟨(("(" : Str) ++ t) ++ (")" : Str), l.dropLast, _, by rw [len_app, len_app, l3, l4]; omega, rfl⟩
theorem m_held (n : Nat) (S : Store) (m : Nat) (l : List Int) (h : cellL S m = some (iD l)) (st : List (Str × List D)) (hst : st ≠ []) (hnm : ∀ p ∈ st, p.1 ∈ NM) (count : Nat) (hc : count ≤ 100) :
    ∃ (z : Str) (l' : List Int), z.length ≤ 5 + 5 * count ∧ d__law_held.sem (pg.tab (n + 3)) [.ref m, stD st, .int (count : Int)] S = .ok (.str z) (S.set m (some (.lst (iD l')))) := by
  have hm := cell_lt h
  rw [_law_held_sem, _law_held_b0_0_eq]
  conv => enter [1, z', 1, l', 2]; lhs; arg 3; rw [W_self h]
  obtain ⟨p, st', rfl⟩ : ∃ p st', st = p :: st' := by cases st with
    | nil => exact absurd rfl hst
    | cons p st' => exact ⟨p, st', rfl⟩
  have hp := nm_short (hnm p List.mem_cons_self)
  have l1 : ("is " : Str).length = 3 := by kernel_rfl
  have e0 := fun T => add_str "is " p.1 (by rw [l1]; exact small_line (by omega)) T
  obtain ⟨ρ', S', q1, t', l', a4, a5, q2, q3, q4⟩ := for_okN (tg := fun x r => some (List.set r 4 (some x))) (b := _law_held_b1_0 (n + 1)) (all := rngD 0 count)
    (fun i ρ S' => ∃ (t : Str) (l : List Int) (a4 a5 : Option D), t.length ≤ 5 + 5 * i ∧ ρ = [some (.ref m), some (stD (p :: st')), some (.int (count : Int)), some (.str t), a4, a5] ∧ S' = W S m l [])
    (rngD 0 count) 0 [some (.ref m), some (stD (p :: st')), some (.int (count : Int)), some (.str (("is " : Str) ++ p.1)), none, none] (W S m l [])
    (fun x hx i ρ S' hi ⟨t, l, a4, a5, f1, f2, f3⟩ => by
      subst f2; subst f3
      rw [rngD_len] at hi
      obtain ⟨t', l', a5', g1, g2⟩ := held_turn n hm l (stD (p :: st')) (.int (count : Int)) x a5 t (by omega)
      exact ⟨_, _, _, rfl, g2, ⟨t', l', _, _, by omega, rfl, rfl⟩⟩) ⟨_, l, none, none, by rw [len_app, l1]; omega, rfl, rfl⟩
  rw [rngD_len] at q2
  subst q3; subst q4
  refine ⟨t', l', by omega, ?_⟩
  have i1 : ∀ T, ixD (stD (p :: st')) (.int 0) T = .ok (mkD p) T := fun T => by rw [ix_t, List.map_cons, at_0]
  have i2 : ∀ T, ixD (mkD p) (.int 0) T = .ok (.str p.1) T := fun T => by unfold mkD; rw [ix_t, at_0]
  simp -implicitDefEqProofs only [get_at, get_up, bind_ok, i1, i2, e0, List.set_cons_succ, List.set_cons_zero, seq_next, _law_held_b0_1_eq, rng_1 count _ (by omega), q1, _law_held_b0_2_eq, seq_ret]
  exact W_cut rfl
/-! ### replaced texts -/
def nbS (z : Str) : Nat := nb z.cps.toList
theorem nbS_app (a b : Str) : nbS (a ++ b) = nbS a + nbS b := by
  unfold nbS
  rw [cps_app, nb_app]
theorem cps_len (z : Str) : z.cps.toList.length = z.length := by
  show z.cps.toList.length = z.cps.size
  simp
theorem nbS_le (z : Str) : nbS z ≤ z.length := by
  rw [← cps_len]
  exact nb_le _
theorem nb_join {y z : Str} (h : nbS y = nbS z) : ∀ xs : List Str, nbS (Str.join y xs) = nbS (Str.join z xs)
  | [] => rfl
  | [x] => rfl
  | x :: w :: r => by
    have ih := nb_join h (w :: r)
    show nbS (x ++ y ++ Str.join y (w :: r)) = nbS (x ++ z ++ Str.join z (w :: r))
    rw [nbS_app, nbS_app, nbS_app, nbS_app, ih, h]
theorem len_join_z {y z : Str} (hy : y.length = 1) : ∀ xs : List Str, (Str.join z xs).length ≤ (Str.join y xs).length + (Str.join y xs).length * z.length
  | [] => by show ((Str.empty).length : Nat) ≤ _; exact Nat.le_add_right _ _
  | [x] => Nat.le_add_right _ _
  | x :: w :: r => by
    have ih := len_join_z (z := z) hy (w :: r)
    show (x ++ z ++ Str.join z (w :: r)).length ≤ (x ++ y ++ Str.join y (w :: r)).length + (x ++ y ++ Str.join y (w :: r)).length * z.length
    rw [len_app, len_app, len_app, len_app, hy]
    have e : (x.length + 1 + (Str.join y (w :: r)).length) * z.length = x.length * z.length + z.length + (Str.join y (w :: r)).length * z.length := by
      rw [Nat.add_mul, Nat.add_mul, Nat.one_mul]
    rw [e]
    omega
theorem parts_join (x y : Str) : Str.join y (PySem.Builtin.Str.partsBetween x (PySem.Builtin.Str.occurrences x y 0 x.length (x.length + 1)) y.length) = x := by
  obtain ⟨f, h⟩ := PySem.StrLaws.occ_chain x y (x.length + 1)
  rw [PySem.StrLaws.partsBetween_eq, PySem.StrLaws.join_partsFrom x y _ 0 f h, PySem.StrLaws.sub_whole]
theorem repl_nb {x y z : Str} (h : nbS y = nbS z) (hy : y.length = 1) : nbS (PySem.Txt.replace x y z) = nbS x ∧ (PySem.Txt.replace x y z).length ≤ x.length + x.length * z.length := by
  unfold PySem.Txt.replace
  split
  · exact ⟨rfl, Nat.le_add_right _ _⟩
  · have e := parts_join x y
    rw [PySem.StrLaws.glued_eq_join]
    generalize PySem.Builtin.Str.partsBetween x (PySem.Builtin.Str.occurrences x y 0 x.length (x.length + 1)) y.length = ps at e
    have h1 := nb_join h ps
    have h2 := len_join_z (z := z) hy ps
    rw [e] at h1 h2
    exact ⟨h1.symm, h2⟩
theorem repl_D {x : Str} (y z : Str) (S : Store) (h : x.length + (x.length + 1) * z.length ≤ 16777216) : replD y z (.str x) S = .ok (.str (PySem.Txt.replace x y z)) S := if_pos h
/-- texts that are asked -/
def Okt (z : Str) : Prop := z.length ≤ 100000 ∧ nbS z ≤ 460
theorem Okt.of {z : Str} (h : z.length ≤ 460) : Okt z := ⟨by omega, Nat.le_trans (nbS_le z) h⟩
theorem okt_asked (st : List (Str × List D)) (hst : st.length ≤ 1000) (hnm : ∀ p ∈ st, p.1 ∈ NM) {z : Str} (h : Okt z) (n : Nat) (S : Store) : d__law_asked_text.sem (pg.tab (n + 200)) [stD st, .str z] S = .ok (.bl true) S :=
  m_asked st hst hnm z (by rw [cps_len]; exact Nat.le_trans h.1 (by omega)) h.2 n S
/-- the five texts made of one -/
theorem five (n : Nat) {z : Str} (hz : z.length ≤ 215) (ρ : EnvD) (S : Store) (hρ : ρ[6]? = some (some (.str z))) : ∃ ts : List Str, (∀ t ∈ ts, Okt t) ∧ ts.length = 5 ∧ _law_r4_3 n ρ S = seqE (.ok (.next (ρ.set 7 (some (.ref S.length)))) (S ++ [some (.lst (sD ts))])) (_law_r4_4 n) := by
  have g := get_of hρ
  have b0 : nbS (" " : Str) = nbS ("   " : Str) := by kernel_rfl
  have b1 : nbS ("(" : Str) = nbS (" ( " : Str) := by kernel_rfl
  have b2 : nbS (")" : Str) = nbS (" ) " : Str) := by kernel_rfl
  have n0 : ("   " : Str).length = 3 := by kernel_rfl
  have n1 : (" ( " : Str).length = 3 := by kernel_rfl
  have n2 : (" ) " : Str).length = 3 := by kernel_rfl
  have l0 : (" " : Str).length = 1 := by kernel_rfl
  have l1 : ("(" : Str).length = 1 := by kernel_rfl
  have l2 : (")" : Str).length = 1 := by kernel_rfl
  have nz := nbS_le z
  obtain ⟨p1, p2⟩ := repl_nb (x := z) b0 l0
  obtain ⟨q1, q2⟩ := repl_nb (x := z) b1 l1
  obtain ⟨r1, r2⟩ := repl_nb (x := PySem.Txt.replace z "(" " ( ") b2 l2
  rw [n0] at p2
  rw [n1] at q2
  rw [n2] at r2
  have e1 := fun T => repl_D (x := z) " " "   " T (by rw [n0]; omega)
  have e2 := fun T => repl_D (x := z) "(" " ( " T (by rw [n1]; omega)
  have e3 := fun T => repl_D (x := PySem.Txt.replace z "(" " ( ") ")" " ) " T (by rw [n2]; omega)
  have e4 := fun T => add_str " " (PySem.Txt.replace (PySem.Txt.replace z "(" " ( ") ")" " ) ") (by rw [l0]; exact small_line (by omega)) T
  have e5 := fun T => add_str z ")" (by rw [l2]; exact small_line (by omega)) T
  have e6 := fun T => add_str "(" z (by rw [l1]; exact small_line (by omega)) T
  have e7 := fun T => add_str (("(" : Str) ++ z) ")" (by rw [len_app, l1, l2]; exact small_line (by omega)) T
  refine ⟨[PySem.Txt.replace z " " "   ", (" " : Str) ++ PySem.Txt.replace (PySem.Txt.replace z "(" " ( ") ")" " ) ", z ++ (")" : Str), (("(" : Str) ++ z) ++ (")" : Str), ""], ?_, rfl, ?_⟩
  · intro t ht
    simp only [List.mem_cons, List.not_mem_nil, or_false] at ht
    rcases ht with rfl | rfl | rfl | rfl | rfl
    · exact ⟨by omega, by omega⟩
    · have hb : nbS (" " : Str) = 0 := by kernel_rfl
      exact ⟨by rw [len_app, l0]; omega, by rw [nbS_app, hb]; omega⟩
    · exact Okt.of (by rw [len_app, l2]; omega)
    · exact Okt.of (by rw [len_app, len_app, l1, l2]; omega)
    · exact Okt.of (by rw [show ("" : Str).length = 0 from by kernel_rfl]; omega)
  · rw [_law_r4_3_eq]
    simp -implicitDefEqProofs only [g, bind_ok, consR, e1, e2, e3, e4, e5, e6, e7]
    exact congrArg (fun r => seqE r (_law_r4_4 n)) (setL_ok (small_line (show 5 ≤ 16000000 by omega)))
end T80

set_option linter.all false
set_option maxRecDepth 100000
set_option maxHeartbeats 4000000
namespace T80
open PySem (Str)
open E
section
variable {B : Store} {m : Nat}
theorem cWq {l : List Int} {G : Store} {a : List D} : cellL (W B m l (G ++ [some (.lst a)])) (B.length + G.length) = some a := by
  have := cWe (S := B) (m := m) (l := l) (a := a) (G := G)
  rwa [W_len] at this
theorem sWq {l : List Int} {G : Store} {x y : Option Cell} : (W B m l (G ++ [x])).set (B.length + G.length) y = W B m l (G ++ [y]) := by
  have := sWe (S := B) (m := m) (l := l) (x := x) (y := y) (G := G)
  rwa [W_len] at this
end
/-- a loop over a list that stays -/
theorem for_cell {tg : D → EnvD → Option EnvD} {b : EvS} {all : List D} {m : Nat} {S : Store} (hc : cellL S m = some all) (P : EnvD → Prop) : ∀ (xs : List D) (ρ : EnvD), (∀ x ∈ xs, ∀ ρ, P ρ → ∃ ρ1 ρ2, tg x ρ = some ρ1 ∧ b ρ1 S = .ok (.next ρ2) S ∧ P ρ2) → P ρ → ∃ ρ', forE tg b (.cell m) all xs ρ S = .ok (.next ρ') S ∧ P ρ'
  | [], ρ, _, h => ⟨ρ, forE_nilC _ _ _ _ _ _ hc, h⟩
  | x :: xs, ρ, hs, h => by
    obtain ⟨ρ1, ρ2, h1, h2, h3⟩ := hs x List.mem_cons_self ρ h
    obtain ⟨ρ', h4, h5⟩ := for_cell hc P xs ρ2 (fun y hy => hs y (List.mem_cons_of_mem _ hy)) h3
    refine ⟨ρ', ?_, h5⟩
    rw [forE_consC _ _ _ _ _ _ _ _ hc, h1]
    show (b ρ1 S).bind _ = _
    rw [h2]
    exact h4
theorem nm_good {st : List (Str × List D)} (hnm : ∀ p ∈ st, p.1 ∈ NM) : (∀ m ∈ nmS st, m ∈ NM) ∧ short (nmS st) := by
  have h : ∀ m ∈ nmS st, m ∈ NM := fun m hm => by
    obtain ⟨p, hp, rfl⟩ := List.mem_map.mp hm
    exact hnm p hp
  exact ⟨h, fun m hm => nm_short (h m hm)⟩
theorem due_txt {nm : List Str} (hn : ∀ m ∈ nm, m ∈ NM) (x : Sy) (hg : x.good nm) (hd : x.depth ≤ 4) : due nm (tok (txt x)) = (some x, (wds x).length) := by
  unfold due
  rw [tok_txt hn x hg, read_back x hg hd]
  exact if_pos (Nat.le_refl _)
theorem same_str (n : Nat) (z : Str) (S : Store) : d__law_same.sem (pg.tab (n + 2)) [.str z, .str z] S = .ok (.bl true) S := m_same 0 (.str z) rfl (Nat.le_refl _) n S
theorem seq_ok_next (r : Res Fl) (k : EvS) (ρ : EnvD) (S : Store) (h : r = .ok (.next ρ) S) : seqE r k = k ρ S := by rw [h, seq_next]
/-- one turn of the law: a saying, its texts -/
theorem law_turn (n : Nat) {B : Store} {m : Nat} (hm : m < B.length) (st : List (Str × List D)) (hst : st ≠ []) (hsl : st.length ≤ 1000) (hnm : ∀ p ∈ st, p.1 ∈ NM) (sg : List Str) (hsg : sg ≠ []) (hsw : ∀ x ∈ sg, x.length ≤ 5) (x0 x4 : D) (a5 a6 a7 a8 a9 : Option D) (l : List Int) (G : Store) :
    ∃ (b5 b6 b7 b8 b9 : Option D) (l' : List Int) (G' : Store), _law_r4_0 (n + 199) [some x0, some (.ref m), some (stD st), some (.tup (sD sg)), some x4, a5, a6, a7, a8, a9, none] (W B m l G) =
      .ok (.next [some x0, some (.ref m), some (stD st), some (.tup (sD sg)), some x4, b5, b6, b7, b8, b9, none]) (W B m l' G') := by
  obtain ⟨hn, hN⟩ := nm_good hnm
  obtain ⟨x, l1, hg, hd, e1⟩ := m_saying st hst m 4 (n + 193) (W B m l G) l (W_cell hm)
  rw [W_set hm] at e1
  have e1' : d__law_saying.sem (pg.tab (n + 199 + 1)) [.ref m, stD st, .int 4] (W B m l G) = .ok (enc x) (W B m l1 G) := e1
  have hlen := txt_len hN x 4 hg hd
  have hl : (txt x).length ≤ 215 := by
    have : 14 * 2 ^ 4 = 224 := by decide
    omega
  have e2 : ∀ S, d__law_saying_text.sem (pg.tab (n + 199 + 1)) [enc x, .int 0] S = .ok (.str (txt x)) S := fun S => by
    have h := m_ltxt hN 4 x hg hd (by omega) (n + 194) 0 S
    rw [need0 hg] at h
    exact h
  have e3 : ∀ S, d_saying_text.sem (pg.tab (n + 199 + 1)) [enc x] S = .ok (.str (txt x)) S := fun S => m_txt hN 4 x hg hd (by omega) (n + 190) S
  have e4 : ∀ S, d__law_same.sem (pg.tab (n + 199 + 1)) [.str (txt x), .str (txt x)] S = .ok (.bl true) S := fun S => same_str (n + 198) (txt x) S
  have hc4 : (txt x).cps.toList.length ≤ 400000 := by rw [cps_len]; omega
  have e5 : ∀ S, d_read_saying.sem (pg.tab (n + 199 + 1)) [stD st, .str (txt x)] S = .ok (enc x) S := fun S => by
    have h := m_read st hsl hnm (txt x) hc4 (by have := tok_nb (txt x); have := nbS_le (txt x); unfold nbS at this; omega) (tok_lens _ hc4) (n + 72) S
    rw [due_txt hn x hg hd] at h
    exact h
  obtain ⟨p1, p2⟩ := plain_enc x
  have e6 : ∀ S, d__law_same.sem (pg.tab (n + 199 + 1)) [enc x, enc x] S = .ok (.bl true) S := fun S => m_same 194 (enc x) p1 (by omega) (n + 4) S
  have hsp := fun l G => fun (hc : cellL (W B m l G) m = some (iD l)) => m_spoilt (n + 197) (W B m l G) m l (txt x) sg hc (by omega) hsg hsw
  generalize hz : txt x = z at *
  obtain ⟨ts, t1, t2, e7⟩ := five (n + 199) hl [some x0, some (.ref m), some (stD st), some (.tup (sD sg)), some x4, some (enc x), some (.str z), a7, a8, a9, none] (W B m l1 G) rfl
  -- the texts that are spoilt
  obtain ⟨ρ1, S1, q1, l2, us, b8, q2, q3, q4, q5⟩ := for_okN (tg := fun x r => some (List.set r 8 (some x))) (b := _law_b1_0 (n + 199)) (all := rngD 0 6)
    (fun i ρ S' => ∃ (l2 : List Int) (us : List Str) (b8 : Option D), (∀ t ∈ us, Okt t) ∧ us.length = 5 + i ∧ ρ = [some x0, some (.ref m), some (stD st), some (.tup (sD sg)), some x4, some (enc x), some (.str z), some (.ref (B.length + G.length)), b8, a9, none] ∧ S' = W B m l2 (G ++ [some (.lst (sD us))]))
    (rngD 0 6) 0 [some x0, some (.ref m), some (stD st), some (.tup (sD sg)), some x4, some (enc x), some (.str z), some (.ref (B.length + G.length)), a8, a9, none] (W B m l1 (G ++ [some (.lst (sD ts))]))
    (fun y hy i ρ S' hi ⟨l2, us, b8, f1, f2, f3, f4⟩ => by
      subst f3; subst f4
      rw [rngD_len] at hi
      obtain ⟨z', l3, g1, g2⟩ := hsp l2 (G ++ [some (.lst (sD us))]) (W_cell hm)
      rw [W_set hm] at g2
      have g2' : d__law_spoilt.sem (pg.tab (n + 199 + 1)) [.ref m, .str z, .tup (sD sg)] (W B m l2 (G ++ [some (.lst (sD us))])) = .ok (.str z') (W B m l3 (G ++ [some (.lst (sD us))])) := g2
      refine ⟨_, [some x0, some (.ref m), some (stD st), some (.tup (sD sg)), some x4, some (enc x), some (.str z), some (.ref (B.length + G.length)), some y, a9, none], W B m l3 (G ++ [some (.lst (sD (us ++ [z'])))]), rfl, ?_, ⟨l3, us ++ [z'], some y, ?_, by simp; omega, rfl, rfl⟩⟩
      · have ap : appendM (.ref (B.length + G.length)) [.str z'] (W B m l3 (G ++ [some (.lst (sD us))])) = .ok .non (W B m l3 (G ++ [some (.lst (sD (us ++ [z'])))])) := by
          rw [app_c _ cWq (Nat.lt_of_lt_of_le (show (sD us).length < 100 by simp; omega) (small_line (by decide))), sWq]
          simp [sD]
        show _law_b1_0 (n + 199) [some x0, some (.ref m), some (stD st), some (.tup (sD sg)), some x4, some (enc x), some (.str z), some (.ref (B.length + G.length)), some y, a9, none] _ = _
        rw [_law_b1_0_eq]
        simp -implicitDefEqProofs only [get_at, get_up, bind_ok, consR, mk1_app _ _ (cWq (B := B) (m := m) (l := l2) (G := G) (a := sD us)), g2', ap, seq_next, _law_b1_1]
      · intro t ht
        rcases List.mem_append.mp ht with ht | ht
        · exact f1 t ht
        · rw [List.mem_singleton] at ht
          subst ht
          exact Okt.of (by omega)) ⟨l1, ts, a8, t1, by omega, rfl, rfl⟩
  subst q4; subst q5
  -- all are asked
  have hc : cellL (W B m l2 (G ++ [some (.lst (sD us))])) (B.length + G.length) = some (sD us) := cWq
  obtain ⟨ρ2, r1, b9, r2⟩ := for_cell (tg := fun x r => some (List.set r 9 (some x))) (b := _law_b2_0 (n + 199)) hc
    (fun ρ => ∃ b9, ρ = [some x0, some (.ref m), some (stD st), some (.tup (sD sg)), some x4, some (enc x), some (.str z), some (.ref (B.length + G.length)), b8, b9, none])
    (sD us) [some x0, some (.ref m), some (stD st), some (.tup (sD sg)), some x4, some (enc x), some (.str z), some (.ref (B.length + G.length)), b8, a9, none]
    (fun y hy ρ ⟨b9, f1⟩ => by
      subst f1
      obtain ⟨t, ht, rfl⟩ := List.mem_map.mp hy
      refine ⟨_, [some x0, some (.ref m), some (stD st), some (.tup (sD sg)), some x4, some (enc x), some (.str z), some (.ref (B.length + G.length)), b8, some (.str t), none], rfl, ?_, ⟨some (.str t), rfl⟩⟩
      show _law_b2_0 (n + 199) [some x0, some (.ref m), some (stD st), some (.tup (sD sg)), some x4, some (enc x), some (.str z), some (.ref (B.length + G.length)), b8, some (.str t), none] _ = _
      have ak : d__law_asked_text.sem (pg.tab (n + 199 + 1)) [stD st, .str t] (W B m l2 (G ++ [some (.lst (sD us))])) = .ok (.bl true) (W B m l2 (G ++ [some (.lst (sD us))])) := okt_asked st hsl hnm (q2 t ht) n _
      rw [_law_b2_0_eq]
      simp -implicitDefEqProofs only [get_at, get_up, bind_ok, consR, ak, tru_bl, Bool.not_true, Bool.false_eq_true, if_false, seq_next, _law_b2_1]) ⟨a9, rfl⟩
  subst r2
  refine ⟨some (enc x), some (.str z), some (.ref (B.length + G.length)), b8, b9, l2, G ++ [some (.lst (sD us))], ?_⟩
  have it : iterD (.ref (B.length + G.length)) (W B m l2 (G ++ [some (.lst (sD us))])) = .ok (sD us, .cell (B.length + G.length)) (W B m l2 (G ++ [some (.lst (sD us))])) := by
    show (match cellL (W B m l2 (G ++ [some (.lst (sD us))])) (B.length + G.length) with
      | some ds => Res.ok (ds, Src.cell (B.length + G.length)) _
      | none => .fail) = _
    rw [hc]
  have r6 : ∀ S, rng1 (.int 6) S = .ok (rngD 0 6, .still) S := fun S => rng_1 6 S (by omega)
  rw [_law_r4_0_eq]
  simp -implicitDefEqProofs only [get_at, get_up, bind_ok, consR, e1', List.set_cons_succ, List.set_cons_zero, seq_next, _law_r4_1_eq, e2, _law_r4_2_eq, e3, e4, tru_bl, Bool.not_true, orB, Bool.false_eq_true, if_false, e5, e6, e7, W_len, wapp, _law_r4_4_eq, r6, q1, _law_r4_5_eq, it, r1, _law_r4_6]
end T80

set_option linter.all false
set_option maxRecDepth 100000
set_option maxHeartbeats 4000000
namespace T80
open PySem (Str)
open E
def SG1 : List Str := ["", "and", "or", "not", "is", "at", "some", "all", "(", ")"]
def SG2 : List Str := ["1", "2", "3", "e0", "m0", "zz", "A", ".", "(is", "e0)"]
def SG : List Str := SG1 ++ SG2
theorem sg_len : ∀ x ∈ SG, x.length ≤ 5 := fun x hx => by
  have : SG.all (fun w => decide (w.length ≤ 5)) = true := by kernel_rfl
  exact of_decide_eq_true (List.all_eq_true.mp this x hx)
theorem sg_D (S : Store) : tupR (sD SG) S = .ok (.tup (sD SG)) S := tup_R _ _ (small_line (show 20 ≤ 16000000 by omega))
/-- the whole law: its answer is True -/
theorem law_ans (n : Nat) (ns : List Int) : d_law.sem (pg.tab (n + 201)) [.scr ns] [] = .ok (.bl true) [] := by
  rw [show n + 201 = (n + 199) + 2 by omega, law_semR]
  have fin : ∀ (G : Store) (r : Res Fl), r = .ok (.ret (.bl true)) G → outR .cut [] r = .ok (.bl true) [] := fun G r h => by
    subst h
    exact cut_app (S := []) (G := G) rfl
  obtain ⟨l0, e0⟩ := m_picks (n + 196) [] ns 0 60 (by omega)
  obtain ⟨z, hz, e1⟩ := m_number (n + 198) [some (.lst (iD l0))] ns 2
  have z0 := Int.fmod_nonneg_of_pos z (b := 3) (by omega)
  have z1 := Int.fmod_lt_of_pos z (b := 3) (by omega)
  obtain ⟨srt, hsrt⟩ : ∃ srt : Nat, 1 + z.fmod 3 = srt := ⟨(1 + z.fmod 3).toNat, by omega⟩
  obtain ⟨st, l1, s1, s2, s3, e2⟩ := m_stock (n + 197) [some (.lst (iD l0))] 0 l0 rfl srt (by omega) (by omega)
  have hnm : ∀ p ∈ st, p.1 ∈ NM := fun p hp => (s3 p hp).1
  obtain ⟨l2, e3⟩ := m_picks (n + 196) [some (.lst (iD l1))] ns 1 400 (by omega)
  have e0' : d__law_picks.sem (pg.tab (n + 199 + 1)) [.scr ns, .int 0, .int 60] [] = .ok (.ref 0) [some (.lst (iD l0))] := e0
  have e1' : d__law_number.sem (pg.tab (n + 199 + 1)) [.scr ns, .int 2] [some (.lst (iD l0))] = .ok (.int z) [some (.lst (iD l0))] := e1
  have e2' : d__law_stock.sem (pg.tab (n + 199 + 1)) [.ref 0, .int (srt : Int), .int 4] [some (.lst (iD l0))] = .ok (stD st) [some (.lst (iD l1))] := e2
  have e3' : d__law_picks.sem (pg.tab (n + 199 + 1)) [.scr ns, .int 1, .int 400] [some (.lst (iD l1))] = .ok (.ref 1) [some (.lst (iD l1)), some (.lst (iD l2))] := e3
  have hB : 1 < ([some (.lst (iD l1)), some (.lst (iD l2))] : Store).length := by show 1 < 2; omega
  have hW : ([some (.lst (iD l1)), some (.lst (iD l2))] : Store) = W [some (.lst (iD l1)), some (.lst (iD l2))] 1 l2 [] := rfl
  obtain ⟨ρ1, S1, q1, a4, a5, a6, a7, a8, a9, l3, G1, q2, q3⟩ := for_ok (tg := fun x r => some (List.set r 4 (some x))) (b := _law_r4_0 (n + 199)) (all := rngD 0 3)
    (fun ρ S' => ∃ (a4 a5 a6 a7 a8 a9 : Option D) (l : List Int) (G : Store), ρ = [some (.scr ns), some (.ref 1), some (stD st), some (.tup (sD SG)), a4, a5, a6, a7, a8, a9, none] ∧ S' = W [some (.lst (iD l1)), some (.lst (iD l2))] 1 l G)
    (rngD 0 3) [some (.scr ns), some (.ref 1), some (stD st), some (.tup (sD SG)), none, none, none, none, none, none, none] (W [some (.lst (iD l1)), some (.lst (iD l2))] 1 l2 [])
    (fun x hx ρ S' ⟨a4, a5, a6, a7, a8, a9, l, G, f1, f2⟩ => by
      subst f1; subst f2
      obtain ⟨b5, b6, b7, b8, b9, l', G', g⟩ := law_turn n hB st s1 (by omega) hnm SG (by unfold SG SG1; simp) sg_len (.scr ns) x a5 a6 a7 a8 a9 l G
      exact ⟨_, _, _, rfl, g, ⟨_, _, _, _, _, _, _, _, rfl, rfl⟩⟩) ⟨none, none, none, none, none, none, l2, [], rfl, rfl⟩
  subst q2; subst q3
  obtain ⟨ρ2, S2, r1, l4, a10, r2, r3⟩ := for_ok (tg := fun x r => some (List.set r 10 (some x))) (b := _law_r5_0 (n + 199)) (all := [.int 39, .int 40])
    (fun ρ S' => ∃ (l : List Int) (a10 : Option D), ρ = [some (.scr ns), some (.ref 1), some (stD st), some (.tup (sD SG)), a4, a5, a6, a7, a8, a9, a10] ∧ S' = W [some (.lst (iD l1)), some (.lst (iD l2))] 1 l G1)
    [.int 39, .int 40] [some (.scr ns), some (.ref 1), some (stD st), some (.tup (sD SG)), a4, a5, a6, a7, a8, a9, none] (W [some (.lst (iD l1)), some (.lst (iD l2))] 1 l3 G1)
    (fun x hx ρ S' ⟨l, a10, f1, f2⟩ => by
      subst f1; subst f2
      obtain ⟨count, hc, rfl⟩ : ∃ count : Nat, count ≤ 40 ∧ x = .int (count : Int) := by
        simp only [List.mem_cons, List.not_mem_nil, or_false] at hx
        rcases hx with rfl | rfl
        · exact ⟨39, by omega, rfl⟩
        · exact ⟨40, by omega, rfl⟩
      obtain ⟨t, l', g1, g2⟩ := m_held (n + 197) (W [some (.lst (iD l1)), some (.lst (iD l2))] 1 l G1) 1 l (W_cell hB) st s1 hnm count (by omega)
      rw [W_set hB] at g2
      have g2' : d__law_held.sem (pg.tab (n + 199 + 1)) [.ref 1, stD st, .int (count : Int)] (W [some (.lst (iD l1)), some (.lst (iD l2))] 1 l G1) = .ok (.str t) (W [some (.lst (iD l1)), some (.lst (iD l2))] 1 l' G1) := g2
      have ak : d__law_asked_text.sem (pg.tab (n + 199 + 1)) [stD st, .str t] (W [some (.lst (iD l1)), some (.lst (iD l2))] 1 l' G1) = .ok (.bl true) (W [some (.lst (iD l1)), some (.lst (iD l2))] 1 l' G1) := okt_asked st (by omega) hnm (Okt.of (by omega)) n _
      refine ⟨_, [some (.scr ns), some (.ref 1), some (stD st), some (.tup (sD SG)), a4, a5, a6, a7, a8, a9, some (.int (count : Int))], W [some (.lst (iD l1)), some (.lst (iD l2))] 1 l' G1, rfl, ?_, ⟨l', _, rfl, rfl⟩⟩
      show _law_r5_0 (n + 199) [some (.scr ns), some (.ref 1), some (stD st), some (.tup (sD SG)), a4, a5, a6, a7, a8, a9, some (.int (count : Int))] _ = _
      rw [_law_r5_0_eq]
      simp -implicitDefEqProofs only [get_at, get_up, bind_ok, consR, g2', ak, tru_bl, Bool.not_true, Bool.false_eq_true, if_false, seq_next, _law_r5_1]) ⟨l3, none, rfl, rfl⟩
  subst r2; subst r3
  refine fin (W [some (.lst (iD l1)), some (.lst (iD l2))] 1 l4 G1) _ ?_
  have r3 : ∀ S, rng1 (.int 3) S = .ok (rngD 0 3, .still) S := fun S => rng_1 3 S (by omega)
  have tg : ∀ S, tupR [D.str "", D.str "and", D.str "or", D.str "not", D.str "is", D.str "at", D.str "some", D.str "all", D.str "(", D.str ")", D.str "1", D.str "2", D.str "3", D.str "e0", D.str "m0", D.str "zz", D.str "A", D.str ".", D.str "(is", D.str "e0)"] S = .ok (.tup (sD SG)) S := sg_D
  have it : ∀ S, iterD (.tup [.int 39, .int 40]) S = .ok ([.int 39, .int 40], .still) S := fun S => rfl
  rw [_law_t0_eq]
  simp -implicitDefEqProofs only [get_at, get_up, bind_ok, consR, e0', List.set_cons_succ, List.set_cons_zero, seq_next, _law_t1_eq, e1', mod_int _ 3 (by omega), add_int, hsrt, e2', _law_t2_eq, e3', _law_t3_eq, tg, _law_t4_eq, r3]
  rw [hW, q1]
  simp -implicitDefEqProofs only [seq_next, _law_t5_eq, bind_ok, consR, tup2, it, r1, _law_t6_eq, seq_ret]
  rfl
end T80

set_option linter.all false
set_option maxRecDepth 100000
set_option maxHeartbeats 4000000
namespace T80
open PySem PySem.Spec PyProof.Rows L2 E
theorem bad_ok : XdOk PP x_BadText := {
  ne := by decide
  dbg := by decide +kernel
  nd := by decide +kernel
  few := by decide
  dbf := by decide +kernel
  top := by kernel_rfl
  txt := ⟨_, _, _, _, _, _, _, _, rfl, rfl, rfl, .cons (.cons .nil), by simp, .cons (.cons .nil), fun _ _ _ _ _ _ _ _ us hl => match us, hl with | [_, _, _], _ => rfl, fun env => ⟨_, rfl⟩⟩
  cell := by decide +kernel
  co := by kernel_rfl
  gen := by kernel_rfl
  kind := by kernel_rfl
  loc := by decide +kernel
  sup := by kernel_rfl
  cls := by kernel_rfl }
theorem xs_ok : ∀ x ∈ xs, XdOk PP x := fun x hx => by
  simp only [xs, List.mem_cons, List.not_mem_nil, or_false] at hx
  subst hx
  exact bad_ok
theorem own_ok (w : World) (K : PySem.W.Frag) (mg : Str → Option Value) (base : Heap) : ∀ d ∈ pg.defs, ∀ F, d.own = some F → OwnOk d PP w K mg base (He.ga K) F := by
  intro d hd F hF
  simp only [pg, List.mem_cons, List.not_mem_nil, or_false] at hd
  rcases hd with rfl | rfl | rfl | rfl | rfl | rfl | rfl | rfl | rfl | rfl | rfl | rfl | rfl | rfl | rfl | rfl | rfl | rfl | rfl | rfl | rfl | rfl | rfl | rfl | rfl | rfl | rfl | rfl | rfl | rfl | rfl | rfl | rfl
  · cases hF
  · cases hF
  · cases hF
  · cases hF
  · cases hF
  · cases hF
  · cases hF
  · cases hF
  · cases hF
  · cases hF
  · cases hF
  · cases hF
  · cases hF
  · cases hF
  · cases hF
  · cases hF
  · cases hF
  · cases hF
  · cases hF
  · cases hF
  · cases hF
  · cases hF
  · cases hF
  · cases hF
  · cases hF
  · cases hF
  · cases hF
  · cases hF
  · cases hF
  · cases hF
  · cases hF
  · cases hF
  · cases hF
    have h : OwnOk d0_law PP w K mg base (He.ga K) (semR d0_law) := own_R (by decide +kernel) (by decide +kernel)
    exact h
end T80
open PySem PySem.W PySem.Calls PyProof.Rows
theorem PySem.Challenge.cw_treestold_k80_texts_of_sayings_holds : PySem.Challenge.rw_treestold_k80_texts_of_sayings.Holds := by
  w_on; o_law
  refine HandSHeadRun.head_any (r := OpenLaw.row PySem.Challenge.rw_treestold_k80_texts_of_sayings) (q := view (OpenLaw.row PySem.Challenge.rw_treestold_k80_texts_of_sayings).prog [43]) (H := T80.hk) (ob := T80.ob) (M := 3000) (loose := T80.names) (d := HandSHeadRun.topDef (OpenLaw.row PySem.Challenge.rw_treestold_k80_texts_of_sayings).prog 43) (kwd := []) T80.ob_eq
    (by kernel_rfl) (fun s => by kernel_rfl) T80.run (by kernel_rfl) (by kernel_rfl) (by kernel_rfl) (by rfl) (by first | assumption | decide +kernel) (by decide +kernel) ⟨rfl, rfl, rfl, rfl, rfl, by decide +kernel⟩ ?hw ?hc
  case hw => w_witness2
  case hc =>
    exact E.end_of (l := PySem.Challenge.rw_treestold_k80_texts_of_sayings) (lv := 201) (n := 6) (g := T80.pg) (xs := T80.xs) (dl := T80.d_law) rfl (by kernel_rfl) ⟨rfl, by decide, by decide⟩ (by kernel_rfl) (by kernel_rfl) (by kernel_rfl) T80.defs_ok T80.xs_ok rfl T80.own_ok (fun ns _ => ⟨_, T80.law_ans 0 ns⟩)
